import PyProof.Rows.All
import Wide.All
import OpenK.AllK
import Wide.FinOn
import KE.KStateDown
import Lean
import HandS.Base
import HandS.Call
import HandS.List
import HandS.Comp
import HandS.Iter
import HandS.Text
import HandS.Exc
import HandS.Words
import HandS.Dict
import KE.LtData
import HandS.TupAny
import HandS.Deep
import HandS.IsInst
import HandS.ExcOwn
import HandS.WordsExc
import HandS.Defaults
import HandS.HeadHook2
import HandS.HeadEnd
import PyProof.StrLaws
import KE.KExcSuper
import HandS.ExcInit
import HandS.ExcSuper
import HandS.ClsMeth
import HandS.ExcField
import HandS.ExcIs
import KE.KExcIs
import HandS.Head0
import HandS.Head1
import HandS.Head2
import HandS.More
import HandS.Style
import HandS.TryOnly
import HandS.Set
import HandS.SetFor
import HandS.SetKeys
import HandS.Strs
import HandS.TupSets
import PyProof.Rows.SortShellAny
import HandS.Star
import HandS.DictComp
import HandS.Records
import HandS.SetBool
import PySem.Challenge.RW_awaitbook_k07_names_that_are_useless
import HandS.HeadHook1
set_option Elab.async false
set_option linter.all false
set_option maxRecDepth 100000
set_option maxHeartbeats 0
namespace DL
open PySem PySem.Spec PyProof.Rows L2

inductive D where
  | non | bl (b : Bool) | int (i : Int) | str (x : Str)
  | tup (xs : List D) | lst (xs : List D)
  | scr (ns : List Int)
  | dct (t l : Bool) (kvs : List (D × D))
  | ins (c : Str) (fs : List (Str × D))
  | cls (c : Str)
  | ty (n : String)
instance : Inhabited D := ⟨.non⟩

structure CT where
  cls : Str → Option Addr
  ex : Option (Addr × Addr × Option Addr) := none
  slf : Option Addr := none
instance : CoeFun CT fun _ => Str → Option Addr := ⟨CT.cls⟩
structure KC where
  K : PySem.W.Frag
  C : CT

def dkV : Key → D
  | .inl i => .int i
  | .inr x => .str x

def RdL (l : Bool) (G : Hp) (a : Addr) (u : HO) : Prop := if l = true then ∃ o, G a = some (.frz o u) else Rd G a u
theorem RdL.rd {l : Bool} {G : Hp} {a : Addr} {u : HO} (h : RdL l G a u) : Rd G a u := by
  unfold RdL at h
  cases l with
  | true => rw [if_pos rfl] at h; exact .inr h
  | false => rw [if_neg (by simp)] at h; exact h
theorem RdL.off {G : Hp} {a : Addr} {u : HO} (h : Rd G a u) : RdL false G a u := by unfold RdL; rw [if_neg (by simp)]; exact h
theorem RdL.on {G : Hp} {a : Addr} {u : HO} {o : Obj} (h : G a = some (.frz o u)) : RdL true G a u := by unfold RdL; rw [if_pos rfl]; exact ⟨o, h⟩
theorem RdL.lk {G : Hp} {a : Addr} {u : HO} (h : RdL true G a u) : ∃ o, G a = some (.frz o u) := by unfold RdL at h; rw [if_pos rfl] at h; exact h
mutual
inductive Rep (K : KC) (G : Hp) : V → D → Prop
  | non : Rep K G .non .non
  | bl (b : Bool) : Rep K G (.bl b) (.bl b)
  | int (i : Int) : Rep K G (.int i) (.int i)
  | str (x : Str) : Rep K G (.str x) (.str x)
  | ty (n : String) : Rep K G (.ty n) (.ty n)
  | cls {c : Str} {a : Addr} : K.C c = some a → Rep K G (.ref a) (.cls c)
  | tup {a : Addr} {vs : List V} {ds : List D} : SqT K.K G a vs → Reps K G vs ds → Rep K G (.ref a) (.tup ds)
  | lst {a : Addr} {vs : List V} {ds : List D} : G a = some (.lst vs) → Reps K G vs ds → Rep K G (.ref a) (.lst ds)
  | scr {a : Addr} {ns : List Int} : SqL K.K G a (ns.map V.int) → Rep K G (.ref a) (.scr ns)
  | dk {l : Bool} {a : Addr} {kvs : List (Key × V)} {ds : List (D × D)} : RdL l G a (.dK kvs) → RepK K G kvs ds → Rep K G (.ref a) (.dct false l ds)
  | dt {l : Bool} {a : Addr} {kvs : List (List Key × V)} {ds : List (D × D)} : RdL l G a (.dT kvs) → RepT K G kvs ds → Rep K G (.ref a) (.dct true l ds)
  | ins {a dx C : Addr} {c : Str} {fs : List (Str × V)} {ds : List (Str × D)} : K.C c = some C → G a = some (.ins C dx fs) → RepF K G fs ds → Rep K G (.ref a) (.ins c ds)
inductive Reps (K : KC) (G : Hp) : List V → List D → Prop
  | nil : Reps K G [] []
  | cons {v : V} {vs : List V} {d : D} {ds : List D} : Rep K G v d → Reps K G vs ds → Reps K G (v :: vs) (d :: ds)
inductive RepF (K : KC) (G : Hp) : List (Str × V) → List (Str × D) → Prop
  | nil : RepF K G [] []
  | cons {f : Str} {v : V} {vs : List (Str × V)} {d : D} {ds : List (Str × D)} : Rep K G v d → RepF K G vs ds → RepF K G ((f, v) :: vs) ((f, d) :: ds)
inductive RepK (K : KC) (G : Hp) : List (Key × V) → List (D × D) → Prop
  | nil : RepK K G [] []
  | cons {k : Key} {v : V} {vs : List (Key × V)} {d : D} {ds : List (D × D)} : Rep K G v d → RepK K G vs ds → RepK K G ((k, v) :: vs) ((dkV k, d) :: ds)
inductive RepT (K : KC) (G : Hp) : List (List Key × V) → List (D × D) → Prop
  | nil : RepT K G [] []
  | cons {k : List Key} {v : V} {vs : List (List Key × V)} {d : D} {ds : List (D × D)} : Rep K G v d → RepT K G vs ds → RepT K G ((k, v) :: vs) ((.tup (k.map dkV), d) :: ds)
end

def Sub (G H : Hp) : Prop := ∀ a o, G a = some o → H a = some o
theorem Sub.refl {G : Hp} : Sub G G := fun _ _ h => h
theorem Sub.trans {A B C : Hp} (h : Sub A B) (k : Sub B C) : Sub A C := fun a o e => k a o (h a o e)
theorem Sub.none {A B : Hp} (h : Sub A B) {a : Addr} (e : B a = none) : A a = none := by
  cases q : A a with
  | none => rfl
  | some o => rw [h a o q] at e; cases e
theorem Sub.rd {A B : Hp} (h : Sub A B) {a : Addr} {u : HO} (r : Rd A a u) : Rd B a u := r.elim (fun z => .inl (h _ _ z)) fun ⟨o, z⟩ => .inr ⟨o, h _ _ z⟩
theorem Sub.rdl {A B : Hp} (h : Sub A B) {l : Bool} {a : Addr} {u : HO} (r : RdL l A a u) : RdL l B a u := by
  cases l with
  | true => obtain ⟨o, e⟩ := r.lk; exact .on (h _ _ e)
  | false => exact .off (h.rd r.rd)
theorem Sub.sqT {K : PySem.W.Frag} {A B : Hp} (h : Sub A B) {a : Addr} {vs : List V} (r : SqT K A a vs) : SqT K B a vs := r.elim (fun z => .inl (h.rd z)) .inr
theorem Sub.sqL {K : PySem.W.Frag} {A B : Hp} (h : Sub A B) {a : Addr} {vs : List V} (r : SqL K A a vs) : SqL K B a vs := r.elim (fun z => .inl (h.rd z)) .inr
theorem Sub.upd {G : Hp} {p : Addr} {o : HO} (h : G p = Option.none) : Sub G (L2.upd G p o) := fun a u e => by
  rw [upd_ne (ne_of_none e h)]; exact e
theorem Sub.upd2 {G H : Hp} {p : Addr} {o : HO} (h : Sub G H) (e : H p = some o) : Sub (L2.upd G p o) H := fun a u q => by
  by_cases z : a = p
  · subst z; rw [upd_same] at q; cases q; exact e
  · rw [upd_ne z] at q; exact h a u q
theorem Sub.updR {G H : Hp} {p : Addr} {o : HO} (h : Sub G H) (e : G p = Option.none) : Sub G (L2.upd H p o) := fun a u q => by
  rw [upd_ne (ne_of_none q e)]; exact h a u q

section
variable {K : KC} {G G' : Hp}
mutual
theorem Rep.mono (h : Sub G G') : ∀ {v : V} {d : D}, Rep K G v d → Rep K G' v d
  | _, _, .non => .non
  | _, _, .bl b => .bl b
  | _, _, .int i => .int i
  | _, _, .str x => .str x
  | _, _, .ty n => .ty n
  | _, _, .cls e => .cls e
  | _, _, .tup s r => .tup (h.sqT s) (Reps.mono h r)
  | _, _, .lst s r => .lst (h _ _ s) (Reps.mono h r)
  | _, _, .scr s => .scr (h.sqL s)
  | _, _, .dk s r => .dk (h.rdl s) (RepK.mono h r)
  | _, _, .dt s r => .dt (h.rdl s) (RepT.mono h r)
  | _, _, .ins c s r => .ins c (h _ _ s) (RepF.mono h r)
theorem Reps.mono (h : Sub G G') : ∀ {v : List V} {d : List D}, Reps K G v d → Reps K G' v d
  | _, _, .nil => .nil
  | _, _, .cons a b => .cons (Rep.mono h a) (Reps.mono h b)
theorem RepF.mono (h : Sub G G') : ∀ {v : List (Str × V)} {d : List (Str × D)}, RepF K G v d → RepF K G' v d
  | _, _, .nil => .nil
  | _, _, .cons a b => .cons (Rep.mono h a) (RepF.mono h b)
theorem RepK.mono (h : Sub G G') : ∀ {v : List (Key × V)} {d : List (D × D)}, RepK K G v d → RepK K G' v d
  | _, _, .nil => .nil
  | _, _, .cons a b => .cons (Rep.mono h a) (RepK.mono h b)
theorem RepT.mono (h : Sub G G') : ∀ {v : List (List Key × V)} {d : List (D × D)}, RepT K G v d → RepT K G' v d
  | _, _, .nil => .nil
  | _, _, .cons a b => .cons (Rep.mono h a) (RepT.mono h b)
end
theorem Reps.length : ∀ {vs : List V} {ds : List D}, Reps K G vs ds → vs.length = ds.length
  | _, _, .nil => rfl
  | _, _, .cons _ b => congrArg Nat.succ b.length
theorem Reps.get : ∀ {vs : List V} {ds : List D} {i : Nat} {d : D}, Reps K G vs ds → ds[i]? = some d → ∃ v, vs[i]? = some v ∧ Rep K G v d
  | _, _, _, _, .nil, e => by simp at e
  | _, _, 0, _, .cons a _, e => by simp at e; subst e; exact ⟨_, rfl, a⟩
  | _, _, i + 1, _, .cons _ b, e => by
    obtain ⟨v, h1, h2⟩ := Reps.get (i := i) b (by simpa using e)
    exact ⟨v, by simpa using h1, h2⟩
theorem Reps.append : ∀ {vs us : List V} {ds es : List D}, Reps K G vs ds → Reps K G us es → Reps K G (vs ++ us) (ds ++ es)
  | _, _, _, _, .nil, s => s
  | _, _, _, _, .cons a b, s => .cons a (b.append s)
theorem Reps.take : ∀ {vs : List V} {ds : List D} (n : Nat), Reps K G vs ds → Reps K G (vs.take n) (ds.take n)
  | _, _, 0, _ => .nil
  | _, _, _ + 1, .nil => .nil
  | _, _, n + 1, .cons a b => .cons a (b.take n)
theorem Reps.drop : ∀ {vs : List V} {ds : List D} (n : Nat), Reps K G vs ds → Reps K G (vs.drop n) (ds.drop n)
  | _, _, 0, r => r
  | _, _, _ + 1, .nil => .nil
  | _, _, n + 1, .cons _ b => b.drop n
theorem Reps.reverse {vs : List V} {ds : List D} (h : Reps K G vs ds) : Reps K G vs.reverse ds.reverse := by
  induction h using Reps.rec (motive_1 := fun _ _ _ => True) (motive_3 := fun _ _ _ => True) (motive_4 := fun _ _ _ => True) (motive_5 := fun _ _ _ => True) with
  | nil => exact .nil
  | cons a b _ ih => rw [List.reverse_cons, List.reverse_cons]; exact ih.append (.cons a .nil)
  | _ => trivial
theorem Reps.ints : ∀ (ns : List Int), Reps K G (ns.map V.int) (ns.map D.int)
  | [] => .nil
  | _ :: r => .cons (.int _) (Reps.ints r)
theorem Reps.of_ints : ∀ {ns : List Int} {vs : List V}, Reps K G vs (ns.map D.int) → vs = ns.map V.int
  | [], _, .nil => rfl
  | _ :: _, _, .cons a b => by cases a; rw [Reps.of_ints b]; rfl
theorem Reps.of_strs : ∀ {ns : List Str} {vs : List V}, Reps K G vs (ns.map D.str) → vs = ns.map V.str
  | [], _, .nil => rfl
  | _ :: _, _, .cons a b => by cases a; rw [Reps.of_strs b]; rfl
theorem Reps.of_bls : ∀ {ns : List Bool} {vs : List V}, Reps K G vs (ns.map D.bl) → vs = ns.map V.bl
  | [], _, .nil => rfl
  | _ :: _, _, .cons a b => by cases a; rw [Reps.of_bls b]; rfl
theorem Reps.strs : ∀ (ns : List Str), Reps K G (ns.map V.str) (ns.map D.str)
  | [] => .nil
  | _ :: r => .cons (.str _) (Reps.strs r)
theorem Reps.set : ∀ {vs : List V} {ds : List D} {v : V} {d : D} (i : Nat), Rep K G v d → Reps K G vs ds → Reps K G (vs.set i v) (ds.set i d)
  | _, _, _, _, _, _, .nil => .nil
  | _, _, _, _, 0, r, .cons _ b => .cons r b
  | _, _, _, _, i + 1, r, .cons a b => .cons a (Reps.set i r b)
theorem RepF.look : ∀ {vs : List (Str × V)} {ds : List (Str × D)} {f : Str} {d : D}, RepF K G vs ds → ds.lookup f = some d → ∃ v, vs.lookup f = some v ∧ Rep K G v d
  | _, _, _, _, .nil, e => by simp at e
  | (g, v) :: _, (_, d') :: _, f, d, .cons a b, e => by
    rw [List.lookup_cons] at e ⊢
    cases q : (f == g) with
    | true => rw [q] at e; cases e; exact ⟨_, rfl, a⟩
    | false => rw [q] at e; exact RepF.look b e
theorem RepF.look_none : ∀ {vs : List (Str × V)} {ds : List (Str × D)} {f : Str}, RepF K G vs ds → ds.lookup f = none → vs.lookup f = none
  | _, _, _, .nil, _ => rfl
  | (g, v) :: _, (_, d') :: _, f, .cons a b, e => by
    rw [List.lookup_cons] at e ⊢
    cases q : (f == g) with
    | true => rw [q] at e; cases e
    | false => rw [q] at e; exact RepF.look_none b e
end

structure Exn where
  cls : Str
  fs : List (Str × D)
inductive Rz (α : Type) where
  | ok (a : α) | exc (e : Exn) | stuck
namespace Rz
variable {α β γ : Type}
def bind (x : Rz α) (f : α → Rz β) : Rz β := match x with
  | .ok a => f a
  | .exc e => .exc e
  | .stuck => .stuck
instance : Monad Rz := { pure := .ok, bind := bind }
@[simp] theorem pure_eq (a : α) : (pure a : Rz α) = .ok a := rfl
@[simp] theorem ok_bind (a : α) (f : α → Rz β) : ((Rz.ok a) >>= f) = f a := rfl
@[simp] theorem exc_bind (e : Exn) (f : α → Rz β) : ((Rz.exc e : Rz α) >>= f) = .exc e := rfl
@[simp] theorem stuck_bind (f : α → Rz β) : ((Rz.stuck : Rz α) >>= f) = .stuck := rfl
theorem bind_assoc (x : Rz α) (f : α → Rz β) (g : β → Rz γ) : (x >>= f) >>= g = x >>= fun a => f a >>= g := by
  cases x <;> rfl
end Rz
def orStuck {α : Type} : Option α → Rz α
  | some a => .ok a
  | none => .stuck
@[simp] theorem orStuck_some {α : Type} (a : α) : orStuck (some a) = .ok a := rfl

inductive OW where
  | lst (ds : List D)
  | dct (t : Bool) (kvs : List (D × D))
  | ins (c : Str) (fs : List (Str × D))
  | self (c : Str) (fs : List (Str × D))
inductive SL where
  | no | val (d : D) | own (w : OW) | exn (e : Exn)
abbrev Env := List SL
instance : Inhabited SL := ⟨.no⟩
inductive EV where
  | fz (d : D) | ow (new : Bool) (w : OW)
def OW.d : OW → D
  | .lst ds => .lst ds
  | .dct t kvs => .dct t false kvs
  | .ins c fs => .ins c fs
  | .self c fs => .ins c fs
@[simp] theorem OW.d_self (c : Str) (fs : List (Str × D)) : (OW.self c fs).d = .ins c fs := rfl
@[simp] theorem OW.d_ins (c : Str) (fs : List (Str × D)) : (OW.ins c fs).d = .ins c fs := rfl
@[simp] theorem OW.d_lst (ds : List D) : (OW.lst ds).d = .lst ds := rfl
@[simp] theorem OW.d_dct (t : Bool) (ds : List (D × D)) : (OW.dct t ds).d = .dct t false ds := rfl
def EV.d : EV → D
  | .fz d => d
  | .ow _ w => w.d
@[simp] theorem EV.d_fz (d : D) : (EV.fz d).d = d := rfl
@[simp] theorem EV.d_ow (n : Bool) (w : OW) : (EV.ow n w).d = w.d := rfl

def WOk (K : KC) (G H : Hp) (p : Addr) : OW → Prop
  | .lst ds => ∃ vs, H p = some (.lst vs) ∧ Reps K G vs ds
  | .dct false ds => ∃ kvs, H p = some (.dK kvs) ∧ RepK K G kvs ds
  | .dct true ds => ∃ kvs, H p = some (.dT kvs) ∧ RepT K G kvs ds
  | .ins c ds => ∃ Ca dx vs, K.C.cls c = some Ca ∧ H p = some (.ins Ca dx vs) ∧ RepF K G vs ds
  | .self c ds => K.C.slf = some p ∧ ∃ Ca dx vs, K.C.cls c = some Ca ∧ H p = some (.ins Ca dx vs) ∧ RepF K G vs ds
theorem WOk.mono {K : KC} {G G' H H' : Hp} {p : Addr} {w : OW} (h : Sub G G') (k : ∀ o, H p = some o → H' p = some o) (x : WOk K G H p w) : WOk K G' H' p w := by
  cases w with
  | lst ds => obtain ⟨vs, e, r⟩ := x; exact ⟨vs, k _ e, r.mono h⟩
  | dct t ds =>
    cases t with
    | false => obtain ⟨vs, e, r⟩ := x; exact ⟨vs, k _ e, r.mono h⟩
    | true => obtain ⟨vs, e, r⟩ := x; exact ⟨vs, k _ e, r.mono h⟩
  | ins c ds => obtain ⟨Ca, dx, vs, q, e, r⟩ := x; exact ⟨Ca, dx, vs, q, k _ e, r.mono h⟩
  | self c ds => obtain ⟨z, Ca, dx, vs, q, e, r⟩ := x; exact ⟨z, Ca, dx, vs, q, k _ e, r.mono h⟩
def noTup : HO → Bool
  | .tup _ => false
  | .xd _ => false
  | .frz _ (.tup _) => false
  | _ => true
def NT (H : Hp) (a : Addr) : Prop := ∃ o, H a = .some o ∧ noTup o = true
theorem NT.mono {H H' : Hp} {a : Addr} (s : Sub H H') (h : NT H a) : NT H' a := let ⟨o, e, k⟩ := h; ⟨o, s a o e, k⟩
theorem NT.no {H : Hp} {a : Addr} (h : NT H a) (e : H a = none) : False := by
  obtain ⟨o, k, _⟩ := h
  rw [e] at k; cases k
theorem WOk.nt {K : KC} {G H : Hp} {p : Addr} {w : OW} (x : WOk K G H p w) : NT H p := by
  cases w with
  | lst ds => obtain ⟨vs, e, r⟩ := x; exact ⟨_, e, rfl⟩
  | dct t ds =>
    cases t with
    | false => obtain ⟨vs, e, r⟩ := x; exact ⟨_, e, rfl⟩
    | true => obtain ⟨vs, e, r⟩ := x; exact ⟨_, e, rfl⟩
  | ins c ds => obtain ⟨Ca, dx, vs, q, e, r⟩ := x; exact ⟨_, e, rfl⟩
  | self c ds => obtain ⟨z, Ca, dx, vs, q, e, r⟩ := x; exact ⟨_, e, rfl⟩
theorem WOk.rep {K : KC} {G H : Hp} {p : Addr} {w : OW} (h : Sub G H) (x : WOk K G H p w) : Rep K H (.ref p) w.d := by
  cases w with
  | lst ds => obtain ⟨vs, e, r⟩ := x; exact .lst e (r.mono h)
  | dct t ds =>
    cases t with
    | false => obtain ⟨vs, e, r⟩ := x; exact .dk (.off (.of e)) (r.mono h)
    | true => obtain ⟨vs, e, r⟩ := x; exact .dt (.off (.of e)) (r.mono h)
  | ins c ds => obtain ⟨Ca, dx, vs, q, e, r⟩ := x; exact .ins q e (r.mono h)
  | self c ds => obtain ⟨z, Ca, dx, vs, q, e, r⟩ := x; exact .ins q e (r.mono h)
theorem WOk.some {K : KC} {G H : Hp} {p : Addr} {w : OW} (x : WOk K G H p w) : ∃ o, H p = .some o ∧ ∀ G' H', Sub G G' → H' p = .some o → WOk K G' H' p w := by
  cases w with
  | lst ds => obtain ⟨vs, e, r⟩ := x; exact ⟨_, e, fun G' H' h k => ⟨vs, k, r.mono h⟩⟩
  | dct t ds =>
    cases t with
    | false => obtain ⟨vs, e, r⟩ := x; exact ⟨_, e, fun G' H' h k => ⟨vs, k, r.mono h⟩⟩
    | true => obtain ⟨vs, e, r⟩ := x; exact ⟨_, e, fun G' H' h k => ⟨vs, k, r.mono h⟩⟩
  | ins c ds => obtain ⟨Ca, dx, vs, q, e, r⟩ := x; exact ⟨_, e, fun G' H' h k => ⟨Ca, dx, vs, q, k, r.mono h⟩⟩
  | self c ds => obtain ⟨z, Ca, dx, vs, q, e, r⟩ := x; exact ⟨_, e, fun G' H' h k => ⟨z, Ca, dx, vs, q, k, r.mono h⟩⟩
theorem WOk.freeze {K : KC} {G H : Hp} {p : Addr} {w : OW} (n : G p = none) (x : WOk K G H p w) : ∃ o, H p = .some o ∧ Rep K (upd G p o) (.ref p) w.d := by
  cases w with
  | lst ds => obtain ⟨vs, e, r⟩ := x; exact ⟨_, e, .lst upd_same (r.mono (.upd n))⟩
  | dct t ds =>
    cases t with
    | false => obtain ⟨vs, e, r⟩ := x; exact ⟨_, e, .dk (.of upd_same) (r.mono (.upd n))⟩
    | true => obtain ⟨vs, e, r⟩ := x; exact ⟨_, e, .dt (.of upd_same) (r.mono (.upd n))⟩
  | ins c ds => obtain ⟨Ca, dx, vs, q, e, r⟩ := x; exact ⟨_, e, .ins q upd_same (r.mono (.upd n))⟩
  | self c ds => obtain ⟨z, Ca, dx, vs, q, e, r⟩ := x; exact ⟨_, e, .ins q upd_same (r.mono (.upd n))⟩

structure Ent where
  G : Hp
  H : Hp
def ExcOk (K : KC) (G H : Hp) (cls : Value) (d : Option Addr) (e : Exn) : Prop :=
  ∃ a, K.C e.cls = some a ∧ cls = .ref a ∧ ((e.fs = [] ∧ d = none) ∨ ∃ dd fs, d = some dd ∧ G dd = some (.xd fs) ∧ RepF K G fs e.fs)
theorem ExcOk.mono {K : KC} {G G' H H' : Hp} {cls : Value} {d : Option Addr} {e : Exn} (h : Sub G G') (x : ExcOk K G H cls d e) : ExcOk K G' H' cls d e := by
  obtain ⟨a, h1, h2, h3⟩ := x
  refine ⟨a, h1, h2, ?_⟩
  rcases h3 with h3 | ⟨dd, fs, h4, h5, h6⟩
  · exact .inl h3
  · exact .inr ⟨dd, fs, h4, h _ _ h5, RepF.mono h h6⟩
def SlotOk (K : KC) (G H : Hp) (v : Option V) : SL → Prop
  | .no => True
  | .val d => ∃ u, v = some u ∧ Rep K G u d
  | .own w => ∃ p, v = some (.ref p) ∧ WOk K G H p w
  | .exn e => ∃ a Ca d, K.C.ex = some (a, Ca, d) ∧ v = some (.ref a) ∧ ExcOk K G G (.ref Ca) d e
theorem SlotOk.xmono {K : KC} {G G' H H' : Hp} {v : Option V} {e : Exn} (s : Sub G G') (h : SlotOk K G H v (.exn e)) : SlotOk K G' H' v (.exn e) := by
  obtain ⟨a, Ca, d, h1, h2, h3⟩ := h
  exact ⟨a, Ca, d, h1, h2, h3.mono s⟩
def SL.owns (x : SL) (v : Option V) (p : Addr) : Prop := (∃ w, x = .own w) ∧ v = some (.ref p)
structure ER (K : KC) (Z : Ent) (G H : Hp) (σ : L2.St) (env : Env) : Prop where
  len : σ.length = env.length
  zg : Sub Z.G G
  zh : Sub Z.H H
  zzz : Sub Z.G Z.H
  sub : Sub G H
  new : ∀ a, G a ≠ none → Z.G a = none → ¬ NT Z.H a
  at' : ∀ (i : Nat) (x : SL), env[i]? = some x → ∃ v, σ[i]? = some v ∧ SlotOk K G H v x
  own : ∀ (i : Nat) (x : SL) (v : Option V) (p : Addr), env[i]? = some x → σ[i]? = some v → x.owns v p → G p = none ∧ Z.H p = none
  dis : ∀ (i j : Nat) (x y : SL) (v u : Option V) (p : Addr), env[i]? = some x → σ[i]? = some v → x.owns v p → env[j]? = some y → σ[j]? = some u → y.owns u p → i = j
def Free (σ : L2.St) (env : Env) (p : Addr) : Prop := ∀ (i : Nat) (x : SL) (v : Option V), env[i]? = some x → σ[i]? = some v → ¬ x.owns v p

structure Ext (G H G' H' : Hp) : Prop where
  g : Sub G G'
  h : Sub H H'
  s : Sub G' H'
  n : ∀ a, G a = none → NT H a → G' a = none
theorem Ext.refl {G H : Hp} (s : Sub G H) : Ext G H G H := ⟨.refl, .refl, s, fun _ h _ => h⟩
theorem Ext.trans {G H G1 H1 G2 H2 : Hp} (x : Ext G H G1 H1) (y : Ext G1 H1 G2 H2) : Ext G H G2 H2 :=
  ⟨x.g.trans y.g, x.h.trans y.h, y.s, fun a e n => y.n a (x.n a e n) (n.mono x.h)⟩
theorem Ext.lay {G H : Hp} (s : Sub G H) {p : Addr} {o : HO} (h : H p = none) : Ext G H G (upd H p o) :=
  ⟨.refl, .upd h, s.updR (s.none h), fun _ e _ => e⟩
theorem Ext.lay2 {G H : Hp} (s : Sub G H) {p : Addr} {o : HO} (h : H p = none) : Ext G H (upd G p o) (upd H p o) :=
  ⟨.upd (s.none h), .upd h, fun a u e => by
    by_cases z : a = p
    · subst z; rw [upd_same] at e ⊢; exact e
    · rw [upd_ne z] at e ⊢; exact s a u e, fun a e n => by rw [upd_ne (fun z => n.no (by rw [z]; exact h))]; exact e⟩
theorem Ext.freeze {G H G' H' : Hp} (x : Ext G H G' H') {p : Addr} {o : HO} (h : H p = none) (e : H' p = some o) : Ext G H (upd G' p o) H' := by
  refine ⟨fun a u q => ?_, x.h, x.s.upd2 e, fun a q n => ?_⟩
  · by_cases z : a = p
    · subst z
      have := x.s _ _ (x.g _ _ q)
      rw [e] at this; cases this
      exact upd_same
    · rw [upd_ne z]; exact x.g a u q
  · rw [upd_ne (fun z => n.no (by rw [z]; exact h))]; exact x.n a q n

theorem ER.ext {K : KC} {Z : Ent} {G H G' H' : Hp} {σ : L2.St} {env : Env} (e : ER K Z G H σ env) (x : Ext G H G' H') : ER K Z G' H' σ env := by
  refine ⟨e.len, e.zg.trans x.g, e.zh.trans x.h, e.zzz, x.s, fun a n z nt => ?_, fun i y q => ?_, fun i y v p q1 q2 o => ?_, e.dis⟩
  · by_cases g : G a = none
    · exact absurd (x.n a g (nt.mono e.zh)) n
    · exact e.new a g z nt
  · obtain ⟨v, h1, h2⟩ := e.at' i y q
    refine ⟨v, h1, ?_⟩
    cases y with
    | no => trivial
    | val d => obtain ⟨u, h3, h4⟩ := h2; exact ⟨u, h3, h4.mono x.g⟩
    | own w => obtain ⟨p, h3, h4⟩ := h2; exact ⟨p, h3, h4.mono x.g fun o q => x.h p o q⟩
    | exn e => exact SlotOk.xmono x.g h2
  · obtain ⟨h1, h2⟩ := e.own i y v p q1 q2 o
    refine ⟨x.n p h1 ?_, h2⟩
    obtain ⟨⟨w, rfl⟩, rfl⟩ := o
    obtain ⟨v, h3, p', h4, h5⟩ := e.at' i _ q1
    rw [q2] at h3; cases h3
    cases h4
    exact h5.nt

def EVok (K : KC) (Z : Ent) (Hs : Hp) (G' H' : Hp) (v : V) : EV → Prop
  | .fz d => Rep K G' v d
  | .ow new w => ∃ p, v = .ref p ∧ WOk K G' H' p w ∧ G' p = none ∧ Z.H p = none ∧ (new = true → Hs p = none)
theorem EVok.ext {K : KC} {Z : Ent} {Hs G H G' H' : Hp} {v : V} {ev : EV} (x : Ext G H G' H') (h : EVok K Z Hs G H v ev) : EVok K Z Hs G' H' v ev := by
  cases ev with
  | fz d => exact Rep.mono x.g h
  | ow n w =>
    obtain ⟨p, e, h1, h2, h3, h4⟩ := h
    exact ⟨p, e, h1.mono x.g fun o q => x.h p o q, x.n p h2 h1.nt, h3, h4⟩
theorem EVok.start {K : KC} {Z : Ent} {Hs Hs' G H : Hp} {v : V} {ev : EV} (x : Sub Hs' Hs) (h : EVok K Z Hs G H v ev) : EVok K Z Hs' G H v ev := by
  cases ev with
  | fz d => exact h
  | ow n w =>
    obtain ⟨p, e, h1, h2, h3, h4⟩ := h
    exact ⟨p, e, h1, h2, h3, fun q => x.none (h4 q)⟩
theorem EVok.rep {K : KC} {Z : Ent} {Hs G H : Hp} {v : V} {ev : EV} (s : Sub G H) (h : EVok K Z Hs G H v ev) : Rep K H v ev.d := by
  cases ev with
  | fz d => exact Rep.mono s h
  | ow n w =>
    obtain ⟨p, e, h1, _⟩ := h
    subst e
    exact h1.rep s
inductive EVs (K : KC) (Z : Ent) (Hs G H : Hp) : List V → List EV → Prop
  | nil : EVs K Z Hs G H [] []
  | cons {v : V} {vs : List V} {e : EV} {es : List EV} : EVok K Z Hs G H v e → EVs K Z Hs G H vs es → EVs K Z Hs G H (v :: vs) (e :: es)
def EV.fr : EV → EV
  | .ow true w => .fz w.d
  | e => e
@[simp] theorem EV.fr_fz (d : D) : (EV.fz d).fr = .fz d := rfl
@[simp] theorem EV.fr_new (w : OW) : (EV.ow true w).fr = .fz w.d := rfl
@[simp] theorem EV.fr_old (w : OW) : (EV.ow false w).fr = .ow false w := rfl
theorem EVok.fr {K : KC} {Z : Ent} {Hs G H G' H' : Hp} {v : V} {ev : EV} (x : Ext G H G' H') (hs : Sub H Hs) (h : EVok K Z Hs G' H' v ev) : ∃ G2, Ext G H G2 H' ∧ Sub G' G2 ∧ EVok K Z Hs G2 H' v ev.fr := by
  cases ev with
  | fz d => exact ⟨G', x, .refl, h⟩
  | ow n w =>
    cases n with
    | false => exact ⟨G', x, .refl, h⟩
    | true =>
      obtain ⟨p, e, h1, h2, h3, h4⟩ := h
      subst e
      obtain ⟨o, h5, h6⟩ := h1.freeze h2
      exact ⟨upd G' p o, x.freeze (hs.none (h4 rfl)) h5, .upd h2, h6⟩
end DL
namespace DL
open PySem PySem.Spec PyProof.Rows L2

abbrev kc (X : Cx) (C : CT) : KC := ⟨X.K, C⟩
def tE (K : KC) (W : WX) (m : Env → Rz EV) : TE := fun σ H Q => ∃ Z G env, ER K Z G H σ env ∧ match m env with
  | .ok ev => ∀ v G' H', Ext G H G' H' → EVok K Z H G' H' v ev → Q v H'
  | .exc e => ∀ cls d G' H', Ext G H G' H' → ExcOk K G' H' cls d e → W cls d σ H'
  | .stuck => False
def tT (K : KC) (W : WX) (m : Env → Rz Bool) : TT := fun σ H Q => ∃ Z G env, ER K Z G H σ env ∧ match m env with
  | .ok b => ∀ G' H', Ext G H G' H' → Q b H'
  | .exc e => ∀ cls d G' H', Ext G H G' H' → ExcOk K G' H' cls d e → W cls d σ H'
  | .stuck => False
def tA (K : KC) (W : WX) (m : Env → Rz (List EV)) : TA := fun σ H Q => ∃ Z G env, ER K Z G H σ env ∧ match m env with
  | .ok evs => ∀ vs G' H', Ext G H G' H' → EVs K Z H G' H' vs evs → Q vs H'
  | .exc e => ∀ cls d G' H', Ext G H G' H' → ExcOk K G' H' cls d e → W cls d σ H'
  | .stuck => False
structure DE (X : Cx) (C : CT) (W : WX) (e : Expr) (m : Env → Rz EV) : Prop where
  pe : PE X e (tE (kc X C) W m)
structure DT (X : Cx) (C : CT) (W : WX) (e : Expr) (m : Env → Rz Bool) : Prop where
  pt : PT X e (tT (kc X C) W m)
structure DA (X : Cx) (C : CT) (W : WX) (es : List Expr) (m : Env → Rz (List EV)) : Prop where
  pa : PA X es (tA (kc X C) W m)
inductive Out where
  | nx (env : Env) | bk (env : Env) | ct (env : Env) | ret (ev : EV) | exc (e : Exn) (env : Env) | stuck
def Post (K : KC) (W : WX) (Z : Ent) (D : Ends) (G : Hp) : Out → Prop
  | .nx env => ∀ σ H G', Sub G G' → ER K Z G' H σ env → D.nx σ H
  | .bk env => ∀ σ H G', Sub G G' → ER K Z G' H σ env → D.bk σ H
  | .ct env => ∀ σ H G', Sub G G' → ER K Z G' H σ env → D.ct σ H
  | .ret ev => ∀ σ env v H G' Hs, Sub G G' → ER K Z G' H σ env → Sub Z.H Hs → EVok K Z Hs G' H v ev → D.rt v H
  | .exc e env => ∀ σ H G' cls d, Sub G G' → ER K Z G' H σ env → ExcOk K G' H cls d e → W cls d σ H
  | .stuck => False
theorem Post.mono {K : KC} {W : WX} {Z : Ent} {D : Ends} {G G1 : Hp} {o : Out} (s : Sub G G1) (h : Post K W Z D G o) : Post K W Z D G1 o := by
  cases o with
  | nx env => exact fun σ H G' q => h σ H G' (s.trans q)
  | bk env => exact fun σ H G' q => h σ H G' (s.trans q)
  | ct env => exact fun σ H G' q => h σ H G' (s.trans q)
  | ret ev => exact fun σ env v H G' Hs q => h σ env v H G' Hs (s.trans q)
  | exc e env => exact fun σ H G' cls d q => h σ H G' cls d (s.trans q)
  | stuck => exact h
def tS (K : KC) (W : WX) (m : Env → Out) : TS := fun D σ H => ∃ Z G env, ER K Z G H σ env ∧ Post K W Z D G (m env)
structure DS (X : Cx) (C : CT) (W : WX) (st : Stmt) (m : Env → Out) : Prop where
  ps : PS X st (tS (kc X C) W m)
structure DSs (X : Cx) (C : CT) (W : WX) (st : List Stmt) (m : Env → Out) : Prop where
  pss : PSs X st (tS (kc X C) W m)

theorem PE.imp {X : Cx} {e : Expr} {t t' : TE} (h : PE X e t) (k : ∀ σ H Q, t' σ H Q → t σ H Q) : PE X e t' := ⟨fun pins s σ H Q I q => h.run pins s σ H Q I (k _ _ _ q)⟩
theorem PT.imp {X : Cx} {e : Expr} {t t' : TT} (h : PT X e t) (k : ∀ σ H Q, t' σ H Q → t σ H Q) : PT X e t' := ⟨fun pins s σ H Q I q => h.run pins s σ H Q I (k _ _ _ q)⟩
theorem PA.imp {X : Cx} {e : List Expr} {t t' : TA} (h : PA X e t) (k : ∀ σ H Q, t' σ H Q → t σ H Q) : PA X e t' := ⟨fun pos pins s σ H Q I q => h.run pos pins s σ H Q I (k _ _ _ q)⟩
theorem PS.imp {X : Cx} {e : Stmt} {t t' : TS} (h : PS X e t) (k : ∀ D σ H, t' D σ H → t D σ H) : PS X e t' := ⟨fun pins s σ H D I q => h.run pins s σ H D I (k _ _ _ q)⟩
theorem PSs.imp {X : Cx} {e : List Stmt} {t t' : TS} (h : PSs X e t) (k : ∀ D σ H, t' D σ H → t D σ H) : PSs X e t' := ⟨fun pins s σ H D I q => h.run pins s σ H D I (k _ _ _ q)⟩

theorem tE.go {K : KC} {W : WX} {m : Env → Rz EV} {Z : Ent} {G H : Hp} {σ : L2.St} {env : Env} {Q : VK} (e : ER K Z G H σ env)
    (h : match m env with
      | .ok ev => ∀ v G' H', Ext G H G' H' → EVok K Z H G' H' v ev → Q v H'
      | .exc e => ∀ cls d G' H', Ext G H G' H' → ExcOk K G' H' cls d e → W cls d σ H'
      | .stuck => False) : tE K W m σ H Q := ⟨Z, G, env, e, h⟩

section
variable {X : Cx} {C : CT} {W : WX}

def mC (d : D) : Env → Rz EV := fun _ => .ok (.fz d)
theorem de_of_val {e : Expr} {v : V} {d : D} (h : PE X e (tC v)) (r : ∀ G, Rep (kc X C) G v d) : DE X C W e (mC d) := ⟨PE.imp h fun σ H Q ⟨Z, G, env, er, q⟩ =>
  q v G H (.refl er.sub) (r G)⟩
theorem de_int {i j pos} : DE X C W (.Constant (.int i) j pos) (mC (.int i)) := de_of_val pe_int fun _ => .int i
theorem de_bl {b j pos} : DE X C W (.Constant (.bool b) j pos) (mC (.bl b)) := de_of_val pe_bl fun _ => .bl b
theorem de_non {j pos} : DE X C W (.Constant .none j pos) (mC .non) := de_of_val pe_non fun _ => .non
theorem de_str {x j pos} : DE X C W (.Constant (.str x) j pos) (mC (.str x)) := de_of_val pe_str fun _ => .str x
theorem de_globS {x y : Str} {t : Tok} {pos : Pos} (hm : X.mg x = some (.str y t)) (hg : Gl X x := by rfl) (hd : (x == ("__debug__" : Str)) = false := by decide) : DE X C W (.Name x pos) (mC (.str y)) :=
  de_of_val (pe_glob hg hm (v := .str y) ⟨t, rfl⟩ hd) fun _ => .str y
theorem de_globI {x : Str} {y : Int} {t : Tok} {pos : Pos} (hm : X.mg x = some (.int y t)) (hg : Gl X x := by rfl) (hd : (x == ("__debug__" : Str)) = false := by decide) : DE X C W (.Name x pos) (mC (.int y)) :=
  de_of_val (pe_glob hg hm (v := .int y) ⟨t, rfl⟩ hd) fun _ => .int y
def rdSlot : SL → Rz EV
  | .no => .stuck
  | .val d => .ok (.fz d)
  | .own w => .ok (.ow false w)
  | .exn _ => .stuck
def mV (i : Nat) : Env → Rz EV := fun env => rdSlot (env.getD i .no)
theorem getD_some {env : Env} {i : Nat} {x : SL} (h : env.getD i .no = x) (hx : x ≠ .no) : env[i]? = some x := by
  rw [List.getD_eq_getElem?_getD] at h
  cases q : env[i]? with
  | none => rw [q] at h; exact absurd h.symm hx
  | some y => rw [q] at h; exact congrArg some h
theorem de_var (i : Nat) {x : Str} {pos : Pos} (hN : X.N[i]? = some x := by rfl) (hv : Vis X.env.scope x := by first | exact Or.inl rfl | exact Or.inr (Or.inl rfl) | exact Or.inr (Or.inr rfl)) (hd : (x == ("__debug__" : Str)) = false := by decide)
    (hcd : (x == ("__classdict__" : Str)) = false := by decide) : DE X C W (.Name x pos) (mV i) := ⟨PE.imp (pe_var hN hv hd hcd) fun σ H Q ⟨Z, G, env, er, q⟩ => by
  unfold mV at q
  cases hx : env.getD i .no with
  | no => rw [hx] at q; exact q.elim
  | exn e => rw [hx] at q; exact q.elim
  | val d =>
    rw [hx] at q
    obtain ⟨v, h1, u, h2, h3⟩ := er.at' i _ (getD_some hx (by simp))
    subst h2
    exact ⟨u, h1, q u G H (.refl er.sub) h3⟩
  | own w =>
    rw [hx] at q
    have hi := getD_some hx (by simp)
    obtain ⟨v, h1, p, h2, h3⟩ := er.at' i _ hi
    subst h2
    obtain ⟨o1, o2⟩ := er.own i _ _ p hi h1 ⟨⟨w, rfl⟩, rfl⟩
    exact ⟨.ref p, h1, q _ G H (.refl er.sub) ⟨p, rfl, h3, o1, o2, fun z => by cases z⟩⟩⟩

def OpD (X : Cx) (C : CT) (f : Value → Value → Sem Value) (g : EV → EV → Rz EV) : Prop :=
  ∃ r : R2, OpR X f r ∧ ∀ (Z : Ent) (G H Hs : Hp) (x y : V) (a b : EV) (Q : VK), Sub G H → Sub Z.H H → EVok (kc X C) Z Hs G H x a → EVok (kc X C) Z Hs G H y b →
    (match g a b with
      | .ok ev => ∀ v G' H', Ext G H G' H' → EVok (kc X C) Z H G' H' v ev → Q v H'
      | _ => False) → r x y H Q
def m2 (ma mb : Env → Rz EV) (g : EV → EV → Rz EV) : Env → Rz EV := fun env => ma env >>= fun a => mb env >>= fun b => g a b
theorem two_go {ma mb : Env → Rz EV} {g : EV → EV → Rz EV} {r : R2} {σ : L2.St} {H : Hp} {Q : VK}
    (ho : ∀ (Z : Ent) (G H Hs : Hp) (x y : V) (a b : EV) (Q : VK), Sub G H → Sub Z.H H → EVok (kc X C) Z Hs G H x a → EVok (kc X C) Z Hs G H y b →
      (match g a b with
        | .ok ev => ∀ v G' H', Ext G H G' H' → EVok (kc X C) Z H G' H' v ev → Q v H'
        | _ => False) → r x y H Q)
    (hg : ∀ a b e, g a b ≠ .exc e) (h : tE (kc X C) W (m2 ma mb g) σ H Q) : tOp r (tE (kc X C) W ma) (tE (kc X C) W mb) σ H Q := by
  obtain ⟨Z, G, env, er, q⟩ := h
  unfold m2 at q
  refine ⟨Z, G, env, er, ?_⟩
  cases ha : ma env with
  | stuck => rw [ha] at q; exact q.elim
  | exc e => rw [ha] at q; exact q
  | ok a =>
    rw [ha] at q
    refine fun x G1 H1 x1 va => ⟨Z, G1, env, er.ext x1, ?_⟩
    cases hb : mb env with
    | stuck => rw [hb] at q; exact q.elim
    | exc e =>
      rw [hb] at q
      exact fun cls d G' H' x2 => q cls d G' H' (x1.trans x2)
    | ok b =>
      rw [hb] at q
      refine fun y G2 H2 x2 vb => ?_
      refine ho Z G2 H2 H x y a b Q x2.s (er.zh.trans (x1.h.trans x2.h)) (va.ext x2) (vb.start x1.h) ?_
      simp only [Rz.ok_bind] at q
      cases hgg : g a b with
      | stuck => rw [hgg] at q; exact q.elim
      | exc e => exact absurd hgg (hg a b e)
      | ok ev =>
        rw [hgg] at q
        exact fun v G' H' x3 ve => q v G' H' ((x1.trans x2).trans x3) (ve.start (x1.h.trans x2.h))
structure NoExc (g : EV → EV → Rz EV) : Prop where
  no : ∀ a b e, g a b ≠ .exc e
theorem de_op {op : Operator} {g : EV → EV → Rz EV} {a b : Expr} {ma mb : Env → Rz EV} {pos : Pos} (ho : OpD X C (binaryOp op) g) (hg : NoExc g) (ha : DE X C W a ma) (hb : DE X C W b mb) : DE X C W (.BinOp a op b pos) (m2 ma mb g) := by
  obtain ⟨r, h1, h2⟩ := ho
  exact ⟨PE.imp (pe_op h1 ha.pe hb.pe) fun σ H Q h => two_go h2 hg.no h⟩
theorem de_cmp {op : CmpOp} {g : EV → EV → Rz EV} {a b : Expr} {ma mb : Env → Rz EV} {pos : Pos} (ho : OpD X C (compareOp op) g) (hg : NoExc g) (ha : DE X C W a ma) (hb : DE X C W b mb) (hm : behindInMarks op b = false := by first | exact nomark _ | rfl) : DE X C W (.Compare a [op] [b] pos) (m2 ma mb g) := by
  obtain ⟨r, h1, h2⟩ := ho
  exact ⟨PE.imp (pe_cmpR h1 ha.pe hb.pe hm) fun σ H Q h => two_go h2 hg.no h⟩
def asB : EV → Rz Bool
  | .fz (.bl b) => .ok b
  | _ => .stuck
@[simp] theorem asB_bl (b : Bool) : asB (.fz (.bl b)) = .ok b := rfl
def mB (m : Env → Rz EV) : Env → Rz Bool := fun env => m env >>= asB
theorem asB_ok {K : KC} {Z : Ent} {Hs G H : Hp} {v : V} {ev : EV} {b : Bool} (h : asB ev = .ok b) (k : EVok K Z Hs G H v ev) : v = .bl b := by
  unfold asB at h
  split at h
  · cases h; cases k; rfl
  · cases h
theorem asB_exc {ev : EV} {e : Exn} : asB ev ≠ .exc e := by
  unfold asB; split <;> simp
theorem tB_go {m : Env → Rz EV} {σ : L2.St} {H : Hp} {Q : Bool → Hp → Prop} (h : tT (kc X C) W (mB m) σ H Q) : tE (kc X C) W m σ H fun x H1 => ∃ k, x = .bl k ∧ Q k H1 := by
  obtain ⟨Z, G, env, er, q⟩ := h
  unfold mB at q
  refine ⟨Z, G, env, er, ?_⟩
  cases ha : m env with
  | stuck => rw [ha] at q; exact q.elim
  | exc e => rw [ha] at q; exact q
  | ok ev =>
    rw [ha] at q
    simp only [Rz.ok_bind] at q
    cases hb : asB ev with
    | stuck => rw [hb] at q; exact q.elim
    | exc e => exact absurd hb asB_exc
    | ok b =>
      rw [hb] at q
      exact fun v G' H' x k => ⟨b, asB_ok hb k, q G' H' x⟩
theorem dt_cmp {op : CmpOp} {g : EV → EV → Rz EV} {a b : Expr} {ma mb : Env → Rz EV} {pos : Pos} (ho : OpD X C (compareOp op) g) (hg : NoExc g) (ha : DE X C W a ma) (hb : DE X C W b mb) (hm : behindInMarks op b = false := by first | exact nomark _ | rfl) : DT X C W (.Compare a [op] [b] pos) (mB (m2 ma mb g)) := by
  obtain ⟨r, h1, h2⟩ := ho
  exact ⟨PT.imp (pt_cmpR h1 ha.pe hb.pe hm) fun σ H Q h => two_go h2 hg.no (tB_go h)⟩
theorem dt_val {e : Expr} {m : Env → Rz EV} (h : DE X C W e m) (he : ∀ whole, isTrue e X.env whole = (do let v ← whole; standAt e.pos; holding [v] (truthy v)) := by intro _; rfl) : DT X C W e (mB m) :=
  ⟨PT.imp (pt_val h.pe he) fun σ H Q h => tB_go h⟩
def mTV (m : Env → Rz Bool) : Env → Rz EV := fun env => m env >>= fun b => .ok (.fz (.bl b))

def mAnd (a b : Env → Rz Bool) : Env → Rz Bool := fun env => a env >>= fun x => if x = true then b env else .ok false
def mOr (a b : Env → Rz Bool) : Env → Rz Bool := fun env => a env >>= fun x => if x = true then .ok true else b env
def mNot (a : Env → Rz Bool) : Env → Rz Bool := fun env => a env >>= fun x => .ok (!x)
structure DW (X : Cx) (C : CT) (W : WX) (e : Expr) (m : Env → Rz Bool) : Prop where
  pw : PW X e (tT (kc X C) W m)
theorem DW.dt {e : Expr} {m : Env → Rz Bool} (h : DW X C W e m) : DT X C W e m := ⟨h.pw.pt⟩
theorem PW.imp {e : Expr} {t t' : TT} (h : PW X e t) (k : ∀ σ H Q, t' σ H Q → t σ H Q) : PW X e t' := ⟨fun wh pins s σ H Q I q => h.run wh pins s σ H Q I (k _ _ _ q)⟩
theorem tT_seq {ma : Env → Rz Bool} {f : Bool → Env → Rz Bool} {σ : L2.St} {H : Hp} {Q : Bool → Hp → Prop} (h : tT (kc X C) W (fun env => ma env >>= fun x => f x env) σ H Q) :
    tT (kc X C) W ma σ H fun x H1 => tT (kc X C) W (f x) σ H1 Q := by
  obtain ⟨Z, G, env, er, q⟩ := h
  refine ⟨Z, G, env, er, ?_⟩
  cases ha : ma env with
  | stuck => simp only [ha] at q; exact q.elim
  | exc e => simp only [ha] at q; exact q
  | ok a =>
    simp only [ha, Rz.ok_bind] at q
    refine fun G1 H1 x1 => ⟨Z, G1, env, er.ext x1, ?_⟩
    cases hb : f a env with
    | stuck => rw [hb] at q; exact q.elim
    | exc e => rw [hb] at q; exact fun cls d G' H' x2 => q cls d G' H' (x1.trans x2)
    | ok b => rw [hb] at q; exact fun G' H' x2 => q G' H' (x1.trans x2)
theorem tT_ok {b : Bool} {σ : L2.St} {H : Hp} {Q : Bool → Hp → Prop} {f : Env → Rz Bool} (hf : ∀ env, f env = .ok b) (h : tT (kc X C) W f σ H Q) : Q b H := by
  obtain ⟨Z, G, env, er, q⟩ := h
  rw [hf] at q
  exact q G H (.refl er.sub)
theorem dw_and1 {a : Expr} {m : Env → Rz Bool} {pos : Pos} (h : DT X C W a m) : DW X C W (.BoolOp .And [a] pos) m := ⟨pw_and1 h.pt⟩
theorem dw_or1 {a : Expr} {m : Env → Rz Bool} {pos : Pos} (h : DT X C W a m) : DW X C W (.BoolOp .Or [a] pos) m := ⟨pw_or1 h.pt⟩
theorem dw_and {a b : Expr} {rest : List Expr} {ma mb : Env → Rz Bool} {pos : Pos} (ha : DT X C W a ma) (hb : DW X C W (.BoolOp .And (b :: rest) pos) mb) : DW X C W (.BoolOp .And (a :: b :: rest) pos) (mAnd ma mb) :=
  ⟨PW.imp (pw_and ha.pt hb.pw) fun σ H Q h => by
    have q := tT_seq (f := fun x env => if x = true then mb env else .ok false) h
    obtain ⟨Z, G, env, er, q⟩ := q
    refine ⟨Z, G, env, er, ?_⟩
    cases hm : ma env with
    | stuck => rw [hm] at q; exact q
    | exc e => rw [hm] at q; exact q
    | ok c =>
      rw [hm] at q
      intro G1 H1 x1
      have q := q G1 H1 x1
      cases c with
      | true => exact q
      | false => exact tT_ok (b := false) (fun _ => rfl) q⟩
theorem dw_or {a b : Expr} {rest : List Expr} {ma mb : Env → Rz Bool} {pos : Pos} (ha : DT X C W a ma) (hb : DW X C W (.BoolOp .Or (b :: rest) pos) mb) : DW X C W (.BoolOp .Or (a :: b :: rest) pos) (mOr ma mb) :=
  ⟨PW.imp (pw_or ha.pt hb.pw) fun σ H Q h => by
    have q := tT_seq (f := fun x env => if x = true then .ok true else mb env) h
    obtain ⟨Z, G, env, er, q⟩ := q
    refine ⟨Z, G, env, er, ?_⟩
    cases hm : ma env with
    | stuck => rw [hm] at q; exact q
    | exc e => rw [hm] at q; exact q
    | ok c =>
      rw [hm] at q
      intro G1 H1 x1
      have q := q G1 H1 x1
      cases c with
      | true => exact tT_ok (b := true) (fun _ => rfl) q
      | false => exact q⟩
theorem dt_not {a : Expr} {ma : Env → Rz Bool} {pos : Pos} (ha : DT X C W a ma) : DT X C W (.UnaryOp .Not a pos) (mNot ma) :=
  ⟨PT.imp (pt_not ha.pt) fun σ H Q h => by
    obtain ⟨Z, G, env, er, q⟩ := tT_seq (f := fun x _ => .ok (!x)) h
    refine ⟨Z, G, env, er, ?_⟩
    cases hm : ma env with
    | stuck => rw [hm] at q; exact q
    | exc e => rw [hm] at q; exact q
    | ok c => rw [hm] at q; exact fun G1 H1 x1 => tT_ok (b := !c) (fun _ => rfl) (q G1 H1 x1)⟩
theorem tE_seq {ma : Env → Rz EV} {f : EV → Env → Rz EV} {σ : L2.St} {H : Hp} {Q : VK} (h : tE (kc X C) W (fun env => ma env >>= fun x => f x env) σ H Q)
    {R : VK} (hR : ∀ (Z : Ent) (G1 H1 : Hp) (env : Env) (v : V) (a : EV), ER (kc X C) Z G1 H1 σ env → EVok (kc X C) Z H G1 H1 v a → Sub H H1 → tE (kc X C) W (f a) σ H1 Q → R v H1) : tE (kc X C) W ma σ H R := by
  obtain ⟨Z, G, env, er, q⟩ := h
  refine ⟨Z, G, env, er, ?_⟩
  cases ha : ma env with
  | stuck => simp only [ha] at q; exact q.elim
  | exc e => simp only [ha] at q; exact q
  | ok a =>
    simp only [ha, Rz.ok_bind] at q
    refine fun v G1 H1 x1 va => hR Z G1 H1 env v a (er.ext x1) va x1.h ⟨Z, G1, env, er.ext x1, ?_⟩
    cases hb : f a env with
    | stuck => rw [hb] at q; exact q.elim
    | exc e => rw [hb] at q; exact fun cls d G' H' x2 => q cls d G' H' (x1.trans x2)
    | ok b => rw [hb] at q; exact fun v G' H' x2 vb => q v G' H' (x1.trans x2) (vb.start x1.h)
def mAndV (a b : Env → Rz EV) : Env → Rz EV := fun env => a env >>= fun x => asB x >>= fun k => if k = true then b env else .ok (.fz (.bl false))
def mOrV (a b : Env → Rz EV) : Env → Rz EV := fun env => a env >>= fun x => asB x >>= fun k => if k = true then .ok (.fz (.bl true)) else b env
def mNotV (a : Env → Rz EV) : Env → Rz EV := fun env => a env >>= fun x => asB x >>= fun k => .ok (.fz (.bl (!k)))
theorem asB_seq {a : EV} {f : Bool → Env → Rz EV} {σ : L2.St} {H : Hp} {Q : VK} {K : KC} {Z : Ent} {Hs G1 H1 : Hp} {v : V} (va : EVok K Z Hs G1 H1 v a) (h : tE (kc X C) W (fun env => asB a >>= fun k => f k env) σ H Q) : ∃ k, v = .bl k ∧ tE (kc X C) W (f k) σ H Q := by
  obtain ⟨Z, G, env, er, q⟩ := h
  cases hb : asB a with
  | stuck => simp only [hb] at q; exact q.elim
  | exc e => exact absurd hb asB_exc
  | ok k =>
    simp only [hb, Rz.ok_bind] at q
    exact ⟨k, asB_ok hb va, Z, G, env, er, q⟩
theorem tE_bl {b : Bool} {σ : L2.St} {H : Hp} {Q : VK} {f : Env → Rz EV} (hf : ∀ env, f env = .ok (.fz (.bl b))) (h : tE (kc X C) W f σ H Q) : Q (.bl b) H := by
  obtain ⟨Z, G, env, er, q⟩ := h
  rw [hf] at q
  exact q _ G H (.refl er.sub) (.bl b)
theorem de_one {op} {a : Expr} {m : Env → Rz EV} {pos : Pos} (h : DE X C W a m) : DE X C W (.BoolOp op [a] pos) m := ⟨pe_one h.pe⟩
theorem de_and {a b : Expr} {rest : List Expr} {ma mb : Env → Rz EV} {pos : Pos} (ha : DE X C W a ma) (hb : DE X C W (.BoolOp .And (b :: rest) pos) mb) : DE X C W (.BoolOp .And (a :: b :: rest) pos) (mAndV ma mb) :=
  ⟨PE.imp (pe_and ha.pe hb.pe) fun σ H Q h => tE_seq (f := fun x env => asB x >>= fun k => if k = true then mb env else .ok (.fz (.bl false))) h fun Z G1 H1 env v a er va hs q => by
    obtain ⟨k, rfl, q⟩ := asB_seq (f := fun k env => if k = true then mb env else .ok (.fz (.bl false))) va q
    refine ⟨k, rfl, ?_⟩
    cases k with
    | true => exact q
    | false => exact tE_bl (b := false) (fun _ => rfl) q⟩
theorem de_or {a b : Expr} {rest : List Expr} {ma mb : Env → Rz EV} {pos : Pos} (ha : DE X C W a ma) (hb : DE X C W (.BoolOp .Or (b :: rest) pos) mb) : DE X C W (.BoolOp .Or (a :: b :: rest) pos) (mOrV ma mb) :=
  ⟨PE.imp (pe_or ha.pe hb.pe) fun σ H Q h => tE_seq (f := fun x env => asB x >>= fun k => if k = true then .ok (.fz (.bl true)) else mb env) h fun Z G1 H1 env v a er va hs q => by
    obtain ⟨k, rfl, q⟩ := asB_seq (f := fun k env => if k = true then .ok (.fz (.bl true)) else mb env) va q
    refine ⟨k, rfl, ?_⟩
    cases k with
    | true => exact tE_bl (b := true) (fun _ => rfl) q
    | false => exact q⟩
theorem de_not {a : Expr} {ma : Env → Rz EV} {pos : Pos} (ha : DE X C W a ma) : DE X C W (.UnaryOp .Not a pos) (mNotV ma) :=
  ⟨PE.imp (pe_not ha.pe) fun σ H Q h => tE_seq (f := fun x _ => asB x >>= fun k => .ok (.fz (.bl (!k)))) h fun Z G1 H1 env v a er va hs q => by
    obtain ⟨k, rfl, q⟩ := asB_seq (f := fun k _ => .ok (.fz (.bl (!k)))) va q
    exact ⟨k, rfl, tE_bl (b := !k) (fun _ => rfl) q⟩⟩
def mIf (t : Env → Rz Bool) (a b : Env → Rz EV) : Env → Rz EV := fun env => t env >>= fun x => if x = true then a env else b env
theorem tT_seqE {ma : Env → Rz Bool} {f : Bool → Env → Rz EV} {σ : L2.St} {H : Hp} {Q : VK} (h : tE (kc X C) W (fun env => ma env >>= fun x => f x env) σ H Q) :
    tT (kc X C) W ma σ H fun x H1 => tE (kc X C) W (f x) σ H1 Q := by
  obtain ⟨Z, G, env, er, q⟩ := h
  refine ⟨Z, G, env, er, ?_⟩
  cases ha : ma env with
  | stuck => simp only [ha] at q; exact q.elim
  | exc e => simp only [ha] at q; exact q
  | ok a =>
    simp only [ha, Rz.ok_bind] at q
    refine fun G1 H1 x1 => ⟨Z, G1, env, er.ext x1, ?_⟩
    cases hb : f a env with
    | stuck => rw [hb] at q; exact q.elim
    | exc e => rw [hb] at q; exact fun cls d G' H' x2 => q cls d G' H' (x1.trans x2)
    | ok b => rw [hb] at q; exact fun v G' H' x2 vb => q v G' H' (x1.trans x2) (vb.start x1.h)
theorem de_if {c a b : Expr} {t : Env → Rz Bool} {ma mb : Env → Rz EV} {pos : Pos} (hc : DT X C W c t) (ha : DE X C W a ma) (hb : DE X C W b mb) : DE X C W (.IfExp c a b pos) (mIf t ma mb) :=
  ⟨PE.imp (pe_ifExp hc.pt ha.pe hb.pe) fun σ H Q h => by
    obtain ⟨Z, G, env, er, q⟩ := tT_seqE (f := fun x env => if x = true then ma env else mb env) h
    refine ⟨Z, G, env, er, ?_⟩
    cases hm : t env with
    | stuck => rw [hm] at q; exact q
    | exc e => rw [hm] at q; exact q
    | ok c =>
      rw [hm] at q
      intro G1 H1 x1
      have q := q G1 H1 x1
      cases c with
      | true => exact q
      | false => exact q⟩

def mNil : Env → Rz (List EV) := fun _ => .ok []
def mCons (a : Env → Rz EV) (r : Env → Rz (List EV)) : Env → Rz (List EV) := fun env => a env >>= fun x => r env >>= fun xs => .ok (x.fr :: xs)
theorem EVs.ext {K : KC} {Z : Ent} {Hs G H G' H' : Hp} (x : Ext G H G' H') : ∀ {vs : List V} {es : List EV}, EVs K Z Hs G H vs es → EVs K Z Hs G' H' vs es
  | _, _, .nil => .nil
  | _, _, .cons a b => .cons (a.ext x) (b.ext x)
theorem EVs.start {K : KC} {Z : Ent} {Hs Hs' G H : Hp} (x : Sub Hs' Hs) : ∀ {vs : List V} {es : List EV}, EVs K Z Hs G H vs es → EVs K Z Hs' G H vs es
  | _, _, .nil => .nil
  | _, _, .cons a b => .cons (a.start x) (b.start x)
theorem da_nil : DA X C W [] mNil := ⟨PA.imp pa_nil fun σ H Q ⟨Z, G, env, er, q⟩ => q [] G H (.refl er.sub) .nil⟩
theorem da_cons {e : Expr} {es : List Expr} {m : Env → Rz EV} {r : Env → Rz (List EV)} (h : DE X C W e m) (hr : DA X C W es r) (hs : starEach (e :: es) X.env = (false, eval e X.env) :: starEach es X.env := by rfl) : DA X C W (e :: es) (mCons m r) :=
  ⟨PA.imp (pa_cons h.pe hr.pa hs) fun σ H Q ⟨Z, G, env, er, q⟩ => by
    unfold mCons at q
    refine ⟨Z, G, env, er, ?_⟩
    cases ha : m env with
    | stuck => rw [ha] at q; exact q.elim
    | exc e => rw [ha] at q; exact q
    | ok a =>
      rw [ha] at q
      simp only [Rz.ok_bind] at q
      intro v G1 H1 x1 va
      obtain ⟨G2, x2, s2, va2⟩ := va.fr x1 .refl
      refine ⟨Z, G2, env, er.ext x2, ?_⟩
      cases hb : r env with
      | stuck => rw [hb] at q; exact q.elim
      | exc e => rw [hb] at q; exact fun cls d G' H' x3 => q cls d G' H' (x2.trans x3)
      | ok b => rw [hb] at q; exact fun vs G' H' x3 vb => q (v :: vs) G' H' (x2.trans x3) (.cons (va2.ext x3) (vb.start x2.h))⟩
def allFz : List EV → Option (List D)
  | [] => some []
  | .fz d :: r => (allFz r).map (d :: ·)
  | _ :: _ => none
@[simp] theorem allFz_nil : allFz [] = some [] := rfl
@[simp] theorem allFz_fz (d : D) (r : List EV) : allFz (.fz d :: r) = (allFz r).map (d :: ·) := rfl
theorem allFz_ok {K : KC} {Z : Ent} {Hs G H : Hp} : ∀ {evs : List EV} {vs : List V} {ds : List D}, allFz evs = some ds → EVs K Z Hs G H vs evs → Reps K G vs ds
  | [], _, _, e, .nil => by cases e; exact .nil
  | .fz d :: r, _, ds, e, .cons a b => by
    rw [allFz_fz] at e
    cases q : allFz r with
    | none => rw [q] at e; cases e
    | some es => rw [q] at e; cases e; exact .cons a (allFz_ok q b)
  | .ow _ _ :: _, _, _, e, _ => by cases e
def mTup (a : Env → Rz (List EV)) : Env → Rz EV := fun env => a env >>= fun xs => orStuck (allFz xs) >>= fun ds => if ds.length ≤ sizeLine then .ok (.fz (.tup ds)) else .stuck
def mLst (a : Env → Rz (List EV)) : Env → Rz EV := fun env => a env >>= fun xs => orStuck (allFz xs) >>= fun ds => if ds.length ≤ sizeLine then .ok (.ow true (.lst ds)) else .stuck
theorem tA_seq {ma : Env → Rz (List EV)} {f : List EV → Env → Rz EV} {σ : L2.St} {H : Hp} {Q : VK} (h : tE (kc X C) W (fun env => ma env >>= fun x => f x env) σ H Q)
    {R : List V → Hp → Prop} (hR : ∀ (Z : Ent) (G1 H1 : Hp) (env : Env) (vs : List V) (a : List EV), ER (kc X C) Z G1 H1 σ env → EVs (kc X C) Z H G1 H1 vs a → Sub H H1 →
      (match f a env with
        | .ok ev => ∀ v G' H', Ext G1 H1 G' H' → EVok (kc X C) Z H1 G' H' v ev → Q v H'
        | .exc e => ∀ cls d G' H', Ext G1 H1 G' H' → ExcOk (kc X C) G' H' cls d e → W cls d σ H'
        | .stuck => False) → R vs H1) : tA (kc X C) W ma σ H R := by
  obtain ⟨Z, G, env, er, q⟩ := h
  refine ⟨Z, G, env, er, ?_⟩
  cases ha : ma env with
  | stuck => simp only [ha] at q; exact q.elim
  | exc e => simp only [ha] at q; exact q
  | ok a =>
    simp only [ha, Rz.ok_bind] at q
    refine fun v G1 H1 x1 va => hR Z G1 H1 env v a (er.ext x1) va x1.h ?_
    cases hb : f a env with
    | stuck => rw [hb] at q; exact q.elim
    | exc e => rw [hb] at q; exact fun cls d G' H' x2 => q cls d G' H' (x1.trans x2)
    | ok b => rw [hb] at q; exact fun v G' H' x2 vb => q v G' H' (x1.trans x2) (vb.start x1.h)
theorem disp_inv {xs : List EV} {F : List D → EV} {P : Rz EV → Prop} (hs : P .stuck → False) (h : P (orStuck (allFz xs) >>= fun ds => if ds.length ≤ sizeLine then .ok (F ds) else .stuck)) : ∃ ds, allFz xs = some ds ∧ ds.length ≤ sizeLine ∧ P (.ok (F ds)) := by
  cases q : allFz xs with
  | none => rw [q] at h; exact (hs h).elim
  | some ds =>
    rw [q] at h
    simp only [orStuck_some, Rz.ok_bind] at h
    by_cases z : ds.length ≤ sizeLine
    · rw [if_pos z] at h; exact ⟨ds, rfl, z, h⟩
    · rw [if_neg z] at h; exact (hs h).elim
theorem de_tup {es : List Expr} {x1} {pos : Pos} {a : Env → Rz (List EV)} (h : DA X C W es a) : DE X C W (.Tuple es x1 pos) (mTup a) :=
  ⟨PE.imp (pe_tup h.pa) fun σ H Q h => tA_seq (f := fun xs _ => orStuck (allFz xs) >>= fun ds => if ds.length ≤ sizeLine then .ok (.fz (.tup ds)) else .stuck) h fun Z G1 H1 env vs a er va hs q => by
    obtain ⟨ds, h1, h2, q⟩ := disp_inv (F := fun ds => EV.fz (.tup ds)) (P := fun r => match r with
        | .ok ev => ∀ v G' H', Ext G1 H1 G' H' → EVok (kc X C) Z H1 G' H' v ev → Q v H'
        | .exc e => ∀ cls d G' H', Ext G1 H1 G' H' → ExcOk (kc X C) G' H' cls d e → W cls d σ H'
        | .stuck => False) (fun z => z) q
    have r := allFz_ok h1 va
    refine ⟨by rw [r.length]; exact h2, fun p hp => q (.ref p) _ _ (.lay2 er.sub hp) ?_⟩
    exact .tup (.of upd_same) (r.mono (.upd (er.sub.none hp)))⟩
theorem de_lst {es : List Expr} {pos : Pos} {a : Env → Rz (List EV)} (h : DA X C W es a) : DE X C W (.List es pos) (mLst a) :=
  ⟨PE.imp (pe_lst h.pa) fun σ H Q h => tA_seq (f := fun xs _ => orStuck (allFz xs) >>= fun ds => if ds.length ≤ sizeLine then .ok (.ow true (.lst ds)) else .stuck) h fun Z G1 H1 env vs a er va hs q => by
    obtain ⟨ds, h1, h2, q⟩ := disp_inv (F := fun ds => EV.ow true (.lst ds)) (P := fun r => match r with
        | .ok ev => ∀ v G' H', Ext G1 H1 G' H' → EVok (kc X C) Z H1 G' H' v ev → Q v H'
        | .exc e => ∀ cls d G' H', Ext G1 H1 G' H' → ExcOk (kc X C) G' H' cls d e → W cls d σ H'
        | .stuck => False) (fun z => z) q
    have r := allFz_ok h1 va
    refine ⟨by rw [r.length]; exact h2, fun p hp => q (.ref p) _ _ (.lay er.sub hp) ?_⟩
    exact ⟨p, rfl, ⟨vs, upd_same, r⟩, er.sub.none hp, er.zh.none hp, fun _ => hp⟩⟩
end
end DL
namespace DL
open PySem PySem.Spec PyProof.Rows L2

section
variable {K : KC} {Z : Ent} {G H : Hp} {σ : L2.St} {env : Env}
theorem ER.upTo (er : ER K Z G H σ env) {i : Nat} (hi : i < env.length) : i < σ.length := by rw [er.len]; exact hi
theorem ER.setV (er : ER K Z G H σ env) {i : Nat} {v : V} {d : D} (r : Rep K G v d) : ER K Z G H (σ.set i (some v)) (env.set i (.val d)) := by
  refine ⟨by simpa using er.len, er.zg, er.zh, er.zzz, er.sub, er.new, fun j x e => ?_, fun j x u p e1 e2 o => ?_, fun j k x y u w p e1 e2 o1 e3 e4 o2 => ?_⟩
  · by_cases hj : i = j
    · subst hj
      have hl : i < env.length := by
        have := (List.getElem?_eq_some_iff.mp e).1
        simpa using this
      rw [List.getElem?_set_self hl] at e
      cases e
      exact ⟨_, List.getElem?_set_self (er.upTo hl), v, rfl, r⟩
    · rw [List.getElem?_set_ne hj] at e ⊢
      exact er.at' j x e
  · have hj : i ≠ j := fun hj => by
      subst hj
      have hl : i < env.length := by
        have := (List.getElem?_eq_some_iff.mp e1).1
        simpa using this
      rw [List.getElem?_set_self hl] at e1
      cases e1
      obtain ⟨⟨w, z⟩, _⟩ := o
      cases z
    rw [List.getElem?_set_ne hj] at e1 e2
    exact er.own j x u p e1 e2 o
  · have nb : ∀ {j : Nat} {x : SL} {u : Option V}, (env.set i (.val d))[j]? = some x → x.owns u p → i ≠ j := fun {j x u} e1 o hj => by
      subst hj
      have hl : i < env.length := by
        have := (List.getElem?_eq_some_iff.mp e1).1
        simpa using this
      rw [List.getElem?_set_self hl] at e1
      cases e1
      obtain ⟨⟨w, z⟩, _⟩ := o
      cases z
    have h1 := nb e1 o1
    have h2 := nb e3 o2
    rw [List.getElem?_set_ne h1] at e1 e2
    rw [List.getElem?_set_ne h2] at e3 e4
    exact er.dis j k x y u w p e1 e2 o1 e3 e4 o2
theorem ER.setO (er : ER K Z G H σ env) {i : Nat} {p : Addr} {w : OW} (wo : WOk K G H p w) (g : G p = none) (z : Z.H p = none)
    (fr : ∀ (j : Nat) (x : SL) (v : Option V), j ≠ i → env[j]? = some x → σ[j]? = some v → ¬ x.owns v p) : ER K Z G H (σ.set i (some (.ref p))) (env.set i (.own w)) := by
  refine ⟨by simpa using er.len, er.zg, er.zh, er.zzz, er.sub, er.new, fun j x e => ?_, fun j x u q e1 e2 o => ?_, fun j k x y u w' q e1 e2 o1 e3 e4 o2 => ?_⟩
  · by_cases hj : i = j
    · subst hj
      have hl : i < env.length := by
        have := (List.getElem?_eq_some_iff.mp e).1
        simpa using this
      rw [List.getElem?_set_self hl] at e
      cases e
      exact ⟨_, List.getElem?_set_self (er.upTo hl), p, rfl, wo⟩
    · rw [List.getElem?_set_ne hj] at e ⊢
      exact er.at' j x e
  · by_cases hj : i = j
    · subst hj
      have hl : i < env.length := by
        have := (List.getElem?_eq_some_iff.mp e1).1
        simpa using this
      rw [List.getElem?_set_self (er.upTo hl)] at e2
      cases e2
      obtain ⟨_, z'⟩ := o
      cases z'
      exact ⟨g, z⟩
    · rw [List.getElem?_set_ne hj] at e1 e2
      exact er.own j x u q e1 e2 o
  · have key : ∀ {j : Nat} {x : SL} {u : Option V}, (env.set i (.own w))[j]? = some x → (σ.set i (some (.ref p)))[j]? = some u → x.owns u q → (j = i ∧ q = p) ∨ (j ≠ i ∧ env[j]? = some x ∧ σ[j]? = some u) := fun {j x u} e1 e2 o => by
      by_cases hj : i = j
      · subst hj
        have hl : i < env.length := by
          have := (List.getElem?_eq_some_iff.mp e1).1
          simpa using this
        rw [List.getElem?_set_self (er.upTo hl)] at e2
        cases e2
        obtain ⟨_, z'⟩ := o
        cases z'
        exact .inl ⟨rfl, rfl⟩
      · rw [List.getElem?_set_ne hj] at e1 e2
        exact .inr ⟨fun h => hj h.symm, e1, e2⟩
    rcases key e1 e2 o1 with ⟨rfl, rfl⟩ | ⟨n1, f1, f2⟩
    · rcases key e3 e4 o2 with ⟨rfl, _⟩ | ⟨n2, f3, f4⟩
      · rfl
      · exact absurd o2 (fr k y w' n2 f3 f4)
    · rcases key e3 e4 o2 with ⟨rfl, rfl⟩ | ⟨n2, f3, f4⟩
      · exact absurd o1 (fr j x u n1 f1 f2)
      · exact er.dis j k x y u w' q f1 f2 o1 f3 f4 o2
theorem ER.setN (er : ER K Z G H σ env) {i : Nat} {u : Option V} : ER K Z G H (σ.set i u) (env.set i .no) := by
  have nb : ∀ {j : Nat} {x : SL} {v : Option V} {p : Addr}, (env.set i .no)[j]? = some x → x.owns v p → i ≠ j := fun {j x v p} e1 o hj => by
    subst hj
    have hl : i < env.length := by
      have := (List.getElem?_eq_some_iff.mp e1).1
      simpa using this
    rw [List.getElem?_set_self hl] at e1
    cases e1
    obtain ⟨⟨w, z⟩, _⟩ := o
    cases z
  refine ⟨by simpa using er.len, er.zg, er.zh, er.zzz, er.sub, er.new, fun j x e => ?_, fun j x v p e1 e2 o => ?_, fun j k x y v w p e1 e2 o1 e3 e4 o2 => ?_⟩
  · by_cases hj : i = j
    · subst hj
      have hl : i < env.length := by
        have := (List.getElem?_eq_some_iff.mp e).1
        simpa using this
      rw [List.getElem?_set_self hl] at e
      cases e
      exact ⟨_, List.getElem?_set_self (er.upTo hl), trivial⟩
    · rw [List.getElem?_set_ne hj] at e ⊢
      exact er.at' j x e
  · have hj := nb e1 o
    rw [List.getElem?_set_ne hj] at e1 e2
    exact er.own j x v p e1 e2 o
  · have h1 := nb e1 o1
    have h2 := nb e3 o2
    rw [List.getElem?_set_ne h1] at e1 e2
    rw [List.getElem?_set_ne h2] at e3 e4
    exact er.dis j k x y v w p e1 e2 o1 e3 e4 o2
theorem ER.free (er : ER K Z G H σ env) {p : Addr} (h : H p = none) : Free σ env p := fun i x v e1 e2 o => by
  obtain ⟨⟨w, rfl⟩, rfl⟩ := o
  obtain ⟨v, h3, q, h4, h5⟩ := er.at' i _ e1
  rw [e2] at h3; cases h3; cases h4
  obtain ⟨o, h6, _⟩ := h5.some
  rw [h6] at h; cases h
theorem ER.put (er : ER K Z G H σ env) {i : Nat} {w w' : OW} {p : Addr} {o : HO} (hi : env[i]? = some (.own w)) (hs : σ[i]? = some (some (.ref p))) (ho : WOk K G (upd H p o) p w') : ER K Z G (upd H p o) σ (env.set i (.own w')) := by
  obtain ⟨g, z⟩ := er.own i _ _ p hi hs ⟨⟨w, rfl⟩, rfl⟩
  have hl : i < env.length := (List.getElem?_eq_some_iff.mp hi).1
  have key : ∀ {j : Nat} {x : SL} {v : Option V}, j ≠ i → env[j]? = some x → σ[j]? = some v → ¬ x.owns v p := fun {j x v} n e1 e2 o' => n (er.dis j i x _ v _ p e1 e2 o' hi hs ⟨⟨w, rfl⟩, rfl⟩)
  have er' : ER K Z G (upd H p o) σ (env.set i .no) := by
    have e0 : ER K Z G H (σ.set i (some (.ref p))) (env.set i .no) := er.setN
    rw [show σ.set i (some (V.ref p)) = σ from by
      apply List.ext_getElem?
      intro j
      by_cases hj : i = j
      · subst hj; rw [List.getElem?_set_self (er.upTo hl), hs]
      · rw [List.getElem?_set_ne hj]] at e0
    refine ⟨e0.len, e0.zg, e0.zh.updR z, e0.zzz, e0.sub.updR g, e0.new, fun j x e => ?_, e0.own, e0.dis⟩
    obtain ⟨v, h1, h2⟩ := e0.at' j x e
    refine ⟨v, h1, ?_⟩
    cases x with
    | no => trivial
    | val d => exact h2
    | exn e => exact h2
    | own w2 =>
      obtain ⟨q, rfl, h4⟩ := h2
      have hj : j ≠ i := fun hj => by
        subst hj
        rw [List.getElem?_set_self hl] at e; cases e
      have e' := e
      rw [List.getElem?_set_ne (Ne.symm hj)] at e'
      have hq : q ≠ p := fun hq => key hj e' h1 ⟨⟨w2, rfl⟩, by rw [hq]⟩
      exact ⟨q, rfl, h4.mono .refl fun o q' => by rw [upd_ne hq]; exact q'⟩
  have e1 := er'.setO (i := i) ho g z (fun j x v n e1 e2 => by
    rw [List.getElem?_set_ne (Ne.symm n)] at e1
    exact key n e1 e2)
  rw [List.set_set] at e1
  rw [show σ.set i (some (V.ref p)) = σ from by
    apply List.ext_getElem?
    intro j
    by_cases hj : i = j
    · subst hj; rw [List.getElem?_set_self (er.upTo hl), hs]
    · rw [List.getElem?_set_ne hj]] at e1
  exact e1
theorem ER.freeze (er : ER K Z G H σ env) {i : Nat} {w : OW} (hi : env[i]? = some (.own w)) : ∃ G', Sub G G' ∧ ER K Z G' H σ (env.set i (.val w.d)) := by
  obtain ⟨v, hs, p, rfl, wo⟩ := er.at' i _ hi
  obtain ⟨g, z⟩ := er.own i _ _ p hi hs ⟨⟨w, rfl⟩, rfl⟩
  obtain ⟨o, h5, h6⟩ := wo.freeze g
  have hl : i < env.length := (List.getElem?_eq_some_iff.mp hi).1
  have hσ : ∀ u : V, u = .ref p → σ.set i (some u) = σ := fun u e => by
    subst e
    apply List.ext_getElem?
    intro j
    by_cases hj : i = j
    · subst hj; rw [List.getElem?_set_self (er.upTo hl), hs]
    · rw [List.getElem?_set_ne hj]
  refine ⟨upd G p o, .upd g, ?_⟩
  have e0 : ER K Z G H (σ.set i (some (.ref p))) (env.set i .no) := er.setN
  rw [hσ _ rfl] at e0
  have e1 : ER K Z (upd G p o) H σ (env.set i .no) := by
    refine ⟨e0.len, e0.zg.trans (.upd g), e0.zh, e0.zzz, e0.sub.upd2 h5, fun a n q => ?_, fun j x e => ?_, fun j x v q e1 e2 o' => ?_, e0.dis⟩
    · by_cases ha : a = p
      · rw [ha]; exact fun nt => nt.no z
      · rw [upd_ne ha] at n; exact e0.new a n q
    · obtain ⟨v, h1, h2⟩ := e0.at' j x e
      refine ⟨v, h1, ?_⟩
      cases x with
      | no => trivial
      | val d => obtain ⟨u, h3, h4⟩ := h2; exact ⟨u, h3, h4.mono (.upd g)⟩
      | exn e => exact SlotOk.xmono (.upd g) h2
      | own w2 => obtain ⟨q, h3, h4⟩ := h2; exact ⟨q, h3, h4.mono (.upd g) fun _ k => k⟩
    · obtain ⟨h1, h2⟩ := e0.own j x v q e1 e2 o'
      refine ⟨?_, h2⟩
      have hj : j ≠ i := fun hj => by
        subst hj
        rw [List.getElem?_set_self hl] at e1; cases e1
        obtain ⟨⟨w, z⟩, _⟩ := o'
        cases z
      rw [List.getElem?_set_ne (Ne.symm hj)] at e1
      have hq : q ≠ p := fun hq => hj (er.dis j i x _ v _ p e1 e2 (by rw [← hq]; exact o') hi hs ⟨⟨w, rfl⟩, rfl⟩)
      rw [upd_ne hq]; exact h1
  have e2 := e1.setV (i := i) h6
  rw [List.set_set, hσ _ rfl] at e2
  exact e2
end

section
variable {X : Cx} {C : CT} {W : WX}

def mSeq (a b : Env → Out) : Env → Out := fun env => match a env with
  | .nx e => b e
  | o => o
theorem dss_nil : DSs X C W [] Out.nx := ⟨PSs.imp pss_nil fun D σ H ⟨Z, G, env, er, q⟩ => q σ H G .refl er⟩
theorem Post.seq {K : KC} {Z : Ent} {D : Ends} {G : Hp} {o : Out} {b : Env → Out} (h : Post K W Z D G (match o with
  | .nx e => b e
  | o => o)) : Post K W Z { D with nx := tS K W b D } G o := by
  cases o with
  | nx e => exact fun σ H G' s er => ⟨Z, G', e, er, h.mono s⟩
  | bk e => exact h
  | ct e => exact h
  | ret e => exact h
  | exc e env => exact h
  | stuck => exact h
theorem dss_cons {st : Stmt} {rest : List Stmt} {a b : Env → Out} (h1 : DS X C W st a) (h2 : DSs X C W rest b) : DSs X C W (st :: rest) (mSeq a b) :=
  ⟨PSs.imp (pss_cons h1.ps h2.pss) fun D σ H ⟨Z, G, env, er, q⟩ => ⟨Z, G, env, er, Post.seq (b := b) q⟩⟩
theorem dss_one {st : Stmt} {a : Env → Out} (h1 : DS X C W st a) : DSs X C W [st] a := ⟨pss_one h1.ps⟩
theorem ds_pass {pos : Pos} : DS X C W (.Pass pos) Out.nx := ⟨PS.imp ps_pass fun D σ H ⟨Z, G, env, er, q⟩ => q σ H G .refl er⟩
theorem ds_break {pos : Pos} : DS X C W (.Break pos) Out.bk := ⟨PS.imp ps_break fun D σ H ⟨Z, G, env, er, q⟩ => q σ H G .refl er⟩
theorem ds_continue {pos : Pos} : DS X C W (.Continue pos) Out.ct := ⟨PS.imp ps_continue fun D σ H ⟨Z, G, env, er, q⟩ => q σ H G .refl er⟩
def onE (m : Env → Rz EV) (f : EV → Env → Out) : Env → Out := fun env => match m env with
  | .ok ev => f ev env
  | .exc e => .exc e env
  | .stuck => .stuck
theorem onE_go {m : Env → Rz EV} {f : EV → Env → Out} {D : Ends} {σ : L2.St} {H : Hp} {R : VK} (h : tS (kc X C) W (onE m f) D σ H)
    (hR : ∀ (Z : Ent) (G1 H1 : Hp) (env : Env) (v : V) (a : EV), ER (kc X C) Z G1 H1 σ env → Sub Z.H H → Sub H H1 → EVok (kc X C) Z H G1 H1 v a → Post (kc X C) W Z D G1 (f a env) → (∀ q, H q = none → Free σ env q) → R v H1) : tE (kc X C) W m σ H R := by
  obtain ⟨Z, G, env, er, q⟩ := h
  unfold onE at q
  refine ⟨Z, G, env, er, ?_⟩
  cases ha : m env with
  | stuck => rw [ha] at q; exact q.elim
  | exc e =>
    rw [ha] at q
    exact fun cls d G' H' x k => q σ H' G' cls d x.g (er.ext x) k
  | ok a =>
    rw [ha] at q
    exact fun v G1 H1 x va => hR Z G1 H1 env v a (er.ext x) er.zh x.h va (Post.mono x.g q) fun p hp => er.free hp
def mDrop (m : Env → Rz EV) : Env → Out := onE m fun _ env => .nx env
theorem ds_expr {e : Expr} {m : Env → Rz EV} {pos : Pos} (h : DE X C W e m) (hs : swapsWith e none pos.line X.env = pure false := by rfl) : DS X C W (.Expr e pos) (mDrop m) :=
  ⟨PS.imp (ps_expr h.pe hs) fun D σ H h => onE_go h fun Z G1 H1 env v a er z s va q _ => q σ H1 G1 .refl er⟩
def mRet (m : Env → Rz EV) : Env → Out := onE m fun a _ => .ret a
theorem ds_ret {e : Expr} {m : Env → Rz EV} {pos : Pos} (h : DE X C W e m) : DS X C W (.Return (some e) pos) (mRet m) :=
  ⟨PS.imp (ps_ret h.pe) fun D σ H h => onE_go h fun Z G1 H1 env v a er z s va q _ => q σ env v H1 G1 H .refl er z va⟩
theorem ds_retN {pos : Pos} : DS X C W (.Return none pos) (fun _ => .ret (.fz .non)) :=
  ⟨PS.imp ps_retN fun D σ H ⟨Z, G, env, er, q⟩ => q σ env .non H G H .refl er er.zh .non⟩
def stF (i : Nat) : EV → Env → Out := fun a env => match a.fr with
  | .fz d => .nx (env.set i (.val d))
  | _ => .stuck
def stO (i : Nat) : EV → Env → Out := fun a env => match a with
  | .ow true w => .nx (env.set i (.own w))
  | _ => .stuck
@[simp] theorem stF_fz (i : Nat) (d : D) (env : Env) : stF i (.fz d) env = .nx (env.set i (.val d)) := rfl
@[simp] theorem stF_new (i : Nat) (w : OW) (env : Env) : stF i (.ow true w) env = .nx (env.set i (.val w.d)) := rfl
@[simp] theorem stO_new (i : Nat) (w : OW) (env : Env) : stO i (.ow true w) env = .nx (env.set i (.own w)) := rfl
def mSetF (i : Nat) (m : Env → Rz EV) : Env → Out := onE m (stF i)
def mSetO (i : Nat) (m : Env → Rz EV) : Env → Out := onE m (stO i)
theorem frz_go {K : KC} {Z : Ent} {G H Hs : Hp} {σ : L2.St} {env : Env} {v : V} {ev : EV} (er : ER K Z G H σ env) (k : EVok K Z Hs G H v ev) (hf : ∀ q, Hs q = none → Free σ env q) : ∃ G2, Sub G G2 ∧ ER K Z G2 H σ env ∧ EVok K Z Hs G2 H v ev.fr := by
  cases ev with
  | fz d => exact ⟨G, .refl, er, k⟩
  | ow n w =>
    cases n with
    | false => exact ⟨G, .refl, er, k⟩
    | true =>
      obtain ⟨p, rfl, h1, h2, h3, h4⟩ := k
      obtain ⟨o, h5, h6⟩ := h1.freeze h2
      have fr := hf p (h4 rfl)
      refine ⟨upd G p o, .upd h2, ⟨er.len, er.zg.trans (.upd h2), er.zh, er.zzz, er.sub.upd2 h5, fun a n q => ?_, fun j x e => ?_, fun j x v q e1 e2 o' => ?_, er.dis⟩, h6⟩
      · by_cases ha : a = p
        · rw [ha]; exact fun nt => nt.no h3
        · rw [upd_ne ha] at n; exact er.new a n q
      · obtain ⟨v, h1, h2'⟩ := er.at' j x e
        refine ⟨v, h1, ?_⟩
        cases x with
        | no => trivial
        | val d => obtain ⟨u, h3, h4⟩ := h2'; exact ⟨u, h3, h4.mono (.upd h2)⟩
        | exn e => exact SlotOk.xmono (.upd h2) h2'
        | own w2 => obtain ⟨q, h3, h4⟩ := h2'; exact ⟨q, h3, h4.mono (.upd h2) fun _ k => k⟩
      · obtain ⟨q1, q2⟩ := er.own j x v q e1 e2 o'
        have hq : q ≠ p := fun hq => fr j x v e1 e2 (by rw [← hq]; exact o')
        exact ⟨by rw [upd_ne hq]; exact q1, q2⟩
theorem ds_setF {i : Nat} {x : Str} {e : Expr} {m : Env → Rz EV} {pos pos' : Pos} (h : DE X C W e m) (hN : X.N.Nodup) (hi : X.N[i]? = some x := by rfl) (hx : Loc X.env.scope x := by first | exact Or.inl rfl | exact Or.inr rfl)
    (hs : swapsWith e (some (.Name x pos')) pos.line X.env = pure false := by rfl) (hf : X.fn x = true ∨ X.env.scope.names.lookup x = some .local := by first | exact .inl rfl | exact .inr rfl) : DS X C W (.Assign [.Name x pos'] e pos) (mSetF i m) :=
  ⟨PS.imp (ps_set hN hi hx h.pe hs hf) fun D σ H h => onE_go h fun Z G1 H1 env v a er z s va q fr => by
    obtain ⟨G2, s2, er2, va2⟩ := frz_go er va fr
    unfold stF at q
    cases ha : a.fr with
    | ow n w => rw [ha] at q; exact q.elim
    | fz d =>
      rw [ha] at q va2
      exact q _ H1 G2 s2 (er2.setV va2)⟩
theorem ds_setO {i : Nat} {x : Str} {e : Expr} {m : Env → Rz EV} {pos pos' : Pos} (h : DE X C W e m) (hN : X.N.Nodup) (hi : X.N[i]? = some x := by rfl) (hx : Loc X.env.scope x := by first | exact Or.inl rfl | exact Or.inr rfl)
    (hs : swapsWith e (some (.Name x pos')) pos.line X.env = pure false := by rfl) (hf : X.fn x = true ∨ X.env.scope.names.lookup x = some .local := by first | exact .inl rfl | exact .inr rfl) : DS X C W (.Assign [.Name x pos'] e pos) (mSetO i m) :=
  ⟨PS.imp (ps_set hN hi hx h.pe hs hf) fun D σ H h => onE_go h fun Z G1 H1 env v a er z s va q fr => by
    unfold stO at q
    split at q
    · rename_i w
      obtain ⟨p, rfl, h1, h2, h3, h4⟩ := va
      exact q _ H1 G1 .refl (er.setO h1 h2 h3 fun j x v _ e1 e2 => fr p (h4 rfl) j x v e1 e2)
    · exact q.elim⟩
def mFrz (i : Nat) (m : Env → Out) : Env → Out := fun env => match env.getD i .no with
  | .own w => m (env.set i (.val w.d))
  | _ => m env
theorem frz_ghost {m : Env → Out} {i : Nat} {D : Ends} {σ : L2.St} {H : Hp} (h : tS (kc X C) W (mFrz i m) D σ H) : tS (kc X C) W m D σ H := by
  obtain ⟨Z, G, env, er, q⟩ := h
  unfold mFrz at q
  split at q
  · rename_i w hw
    obtain ⟨G2, s2, er2⟩ := er.freeze (getD_some hw (by simp))
    exact ⟨Z, G2, _, er2, q.mono s2⟩
  · exact ⟨Z, G, env, er, q⟩
theorem mFrz_own {i : Nat} {m : Env → Out} {env : Env} {w : OW} (h : env.getD i .no = .own w) : mFrz i m env = m (env.set i (.val w.d)) := by
  unfold mFrz; rw [h]
theorem mFrz_val {i : Nat} {m : Env → Out} {env : Env} {d : D} (h : env.getD i .no = .val d) : mFrz i m env = m env := by
  unfold mFrz; rw [h]
theorem ds_frz (i : Nat) {st : Stmt} {m : Env → Out} (h : DS X C W st m) : DS X C W st (mFrz i m) := ⟨PS.imp h.ps fun D σ H q => frz_ghost q⟩
theorem dss_frz (i : Nat) {st : List Stmt} {m : Env → Out} (h : DSs X C W st m) : DSs X C W st (mFrz i m) := ⟨PSs.imp h.pss fun D σ H q => frz_ghost q⟩
def mIfS (t : Env → Rz Bool) (a b : Env → Out) : Env → Out := fun env => match t env with
  | .ok c => if c = true then a env else b env
  | .exc e => .exc e env
  | .stuck => .stuck
theorem ds_if {c : Expr} {t : Env → Rz Bool} {sa sb : List Stmt} {a b : Env → Out} {pos : Pos} (hc : DT X C W c t) (ha : DSs X C W sa a) (hb : DSs X C W sb b) : DS X C W (.If c sa sb pos) (mIfS t a b) :=
  ⟨PS.imp (ps_if hc.pt ha.pss hb.pss) fun D σ H ⟨Z, G, env, er, q⟩ => by
    unfold mIfS at q
    refine ⟨Z, G, env, er, ?_⟩
    cases ht : t env with
    | stuck => rw [ht] at q; exact q.elim
    | exc e => rw [ht] at q; exact fun cls d G' H' x k => q σ H' G' cls d x.g (er.ext x) k
    | ok c =>
      rw [ht] at q
      intro G1 H1 x
      cases c with
      | true => exact ⟨Z, G1, env, er.ext x, Post.mono x.g q⟩
      | false => exact ⟨Z, G1, env, er.ext x, Post.mono x.g q⟩⟩

def tG (K : KC) (vs : List Nat) (p : D → Env → Rz Env) : TG := fun v σ H Q => ∃ Z G env d, ER K Z G H σ env ∧ Rep K G v d ∧ match p d env with
  | .ok env' => ∀ σ', ER K Z G H σ' env' → σ'.length = σ.length → (∀ i, i ∉ vs → σ'[i]? = σ[i]?) → Q σ' H
  | _ => False
structure DG (X : Cx) (C : CT) (tg : Expr) (vs : List Nat) (p : D → Env → Rz Env) : Prop where
  pg : PG X tg (tG (kc X C) vs p)
def pName (i : Nat) : D → Env → Rz Env := fun d env => .ok (env.set i (.val d))
theorem PG.imp {tg : Expr} {t t' : TG} (h : PG X tg t) (k : ∀ v σ H Q, t' v σ H Q → t v σ H Q) : PG X tg t' := ⟨fun pins s σ H v u Q I r q => h.run pins s σ H v u Q I r (k _ _ _ _ q)⟩
theorem dg_name {i : Nat} {x : Str} {pos : Pos} (hN : X.N.Nodup) (hi : X.N[i]? = some x := by rfl) (hx : Loc X.env.scope x := by first | exact Or.inl rfl | exact Or.inr rfl) (hf : X.fn x = true ∨ X.env.scope.names.lookup x = some .local := by first | exact .inl rfl | exact .inr rfl) :
    DG X C (.Name x pos) [i] (pName i) := ⟨PG.imp (pg_name hN hi hx hf) fun v σ H Q ⟨Z, G, env, d, er, r, q⟩ => q _ (er.setV r) (by simp) fun j hj => by
      rw [List.getElem?_set_ne (fun e => hj (by simp [e]))]⟩
def tGs (K : KC) (vs : List Nat) (p : List D → Env → Rz Env) : TGs := fun us σ H Q => ∃ Z G env ds, ER K Z G H σ env ∧ Reps K G us ds ∧ match p ds env with
  | .ok env' => ∀ σ', ER K Z G H σ' env' → σ'.length = σ.length → (∀ i, i ∉ vs → σ'[i]? = σ[i]?) → Q σ' H
  | _ => False
structure DGs (X : Cx) (C : CT) (tgs : List Expr) (vs : List Nat) (p : List D → Env → Rz Env) : Prop where
  pgs : PGs X tgs (tGs (kc X C) vs p)
theorem PGs.imp {tg : List Expr} {t t' : TGs} (h : PGs X tg t) (k : ∀ v σ H Q, t' v σ H Q → t v σ H Q) : PGs X tg t' := ⟨fun pins s σ H v u Q I r q => h.run pins s σ H v u Q I r (k _ _ _ _ q)⟩
def pNil : List D → Env → Rz Env := fun ds env => match ds with
  | [] => .ok env
  | _ => .stuck
def pCons (p : D → Env → Rz Env) (r : List D → Env → Rz Env) : List D → Env → Rz Env := fun ds env => match ds with
  | d :: ds => p d env >>= r ds
  | [] => .stuck
theorem dgs_nil : DGs X C [] [] pNil := ⟨PGs.imp pgs_nil fun v σ H Q ⟨Z, G, env, ds, er, r, q⟩ => by
  cases r with
  | nil => exact ⟨rfl, q σ er rfl fun _ _ => rfl⟩
  | cons a b => exact q.elim⟩
theorem dgs_cons {e : Expr} {es : List Expr} {v1 v2 : List Nat} {p : D → Env → Rz Env} {r : List D → Env → Rz Env} (h1 : DG X C e v1 p) (h2 : DGs X C es v2 r)
    (hs : (assignEach (e :: es) X.env).map (·.2) = assign e X.env :: (assignEach es X.env).map (·.2) := by rfl) : DGs X C (e :: es) (v1 ++ v2) (pCons p r) :=
  ⟨PGs.imp (pgs_cons h1.pg h2.pgs hs) fun us σ H Q ⟨Z, G, env, ds, er, rs, q⟩ => by
    cases rs with
    | nil => exact q.elim
    | @cons u us d ds a b =>
      refine ⟨_, _, rfl, Z, G, env, d, er, a, ?_⟩
      unfold pCons at q
      dsimp only at q
      cases hp : p d env with
      | stuck => rw [hp] at q; exact q.elim
      | exc e => rw [hp] at q; exact q.elim
      | ok e1 =>
        rw [hp] at q
        intro σ1 er1 l1 f1
        refine ⟨Z, G, e1, ds, er1, b, ?_⟩
        simp only [Rz.ok_bind] at q
        cases hr : r ds e1 with
        | stuck => rw [hr] at q; exact q.elim
        | exc e => rw [hr] at q; exact q.elim
        | ok e2 =>
          rw [hr] at q
          exact fun σ2 er2 l2 f2 => q σ2 er2 (l2.trans l1) fun i hi => by
            rw [List.mem_append, not_or] at hi
            rw [f2 i hi.2, f1 i hi.1]⟩
def pTup (r : List D → Env → Rz Env) (n : Nat) : D → Env → Rz Env := fun d env => match d with
  | .tup ds => if ds.length = n then r ds env else .stuck
  | _ => .stuck
theorem dg_tup {es : List Expr} {k : Nat} {vs : List Nat} {r : List D → Env → Rz Env} {n : Nat} {pos : Pos} (h : DGs X C es vs r) (hc : X.calm = true := by rfl)
    (hn : (assignEach es X.env).length = n := by rfl) (hst : (assignEach es X.env).findIdx? (·.1) = none := by rfl) : DG X C (.Tuple es k pos) vs (pTup r n) :=
  ⟨PG.imp (pg_tup hc h.pgs hn hst) fun v σ H Q ⟨Z, G, env, d, er, rr, q⟩ => by
    unfold pTup at q
    cases rr with
    | @tup a vs' ds sq rs =>
      dsimp only at q
      by_cases hl : ds.length = n
      · rw [if_pos hl] at q
        exact ⟨_, _, rfl, er.sub.sqT sq, rs.length.trans hl, Z, G, env, ds, er, rs, q⟩
      · rw [if_neg hl] at q; exact q.elim
    | _ => exact q.elim⟩
def mAsgF (p : D → Env → Rz Env) (m : Env → Rz EV) : Env → Out := onE m fun a env => match a.fr with
  | .fz d => (match p d env with
    | .ok env' => .nx env'
    | _ => .stuck)
  | _ => .stuck
theorem ds_asgF {tg e : Expr} {m : Env → Rz EV} {vs : List Nat} {p : D → Env → Rz Env} {pos : Pos} (h : DE X C W e m) (hg : DG X C tg vs p) (hs : swapsWithSole [tg] e pos.line X.env = pure false := by rfl) (hw : swappedStores [tg] e X.env = pure none := by rfl)
    (h1 : (assignEach [tg] X.env).map (·.2) = [assign tg X.env] := by rfl) : DS X C W (.Assign [tg] e pos) (mAsgF p m) :=
  ⟨PS.imp (ps_asg h.pe hg.pg hs hw h1) fun D σ H h => onE_go h fun Z G1 H1 env v a er z s va q fr => by
    obtain ⟨G2, s2, er2, va2⟩ := frz_go er va fr
    cases ha : a.fr with
    | ow n w => simp only [ha] at q; exact q.elim
    | fz d =>
      simp only [ha] at q
      rw [ha] at va2
      refine ⟨Z, G2, env, d, er2, va2, ?_⟩
      cases hp : p d env with
      | ok env' => rw [hp] at q; exact fun σ' er' _ _ => q σ' H1 G2 s2 er'
      | exc e => rw [hp] at q; exact q.elim
      | stuck => rw [hp] at q; exact q.elim⟩

structure IterOk (K : KC) (J : It) (G : Hp) (ds : List D) : Prop where
  go : ∀ (i : Nat) (G2 H2 : Hp), i < ds.length → Sub G G2 → Sub G2 H2 → J.go i H2
  stop : ∀ (G2 H2 : Hp), Sub G G2 → Sub G2 H2 → J.stop ds.length H2
  yld : ∀ (i : Nat) (x : V) (G2 H2 H3 : Hp), i < ds.length → Sub G G2 → Sub G2 H2 → J.yld i H2 x H3 → ∃ d G3, ds[i]? = some d ∧ Ext G2 H2 G3 H3 ∧ Rep K G3 x d
theorem IterOk.mono {K : KC} {J : It} {G G' : Hp} {ds : List D} (s : Sub G G') (h : IterOk K J G ds) : IterOk K J G' ds :=
  ⟨fun i G2 H2 l a b => h.go i G2 H2 l (s.trans a) b, fun G2 H2 a b => h.stop G2 H2 (s.trans a) b, fun i x G2 H2 H3 l a b y => h.yld i x G2 H2 H3 l (s.trans a) b y⟩
def tI (K : KC) (W : WX) (m : Env → Rz (List D)) : TI := fun σ H R => ∃ Z G env, ER K Z G H σ env ∧ match m env with
  | .ok ds => ∀ J G' H', Ext G H G' H' → IterOk K J G' ds → R J H'
  | .exc e => ∀ cls d G' H', Ext G H G' H' → ExcOk K G' H' cls d e → W cls d σ H'
  | .stuck => False
structure DI (X : Cx) (C : CT) (W : WX) (tg iter : Expr) (m : Env → Rz (List D)) : Prop where
  pi : PI X tg iter (tI (kc X C) W m)
theorem PI.imp {tg iter : Expr} {t t' : TI} (h : PI X tg iter t) (k : ∀ σ H Q, t' σ H Q → t σ H Q) : PI X tg iter t' := ⟨fun pins s σ H Q I q => h.run pins s σ H Q I (k _ _ _ q)⟩
def items : D → Rz (List D)
  | .lst ds => .ok ds
  | .tup ds => .ok ds
  | .scr ns => .ok (ns.map .int)
  | .str x => .ok (x.cps.toList.map fun c => .str ⟨#[c]⟩)
  | .dct _ true kvs => .ok (kvs.map (·.1))
  | _ => .stuck
@[simp] theorem items_dct (t : Bool) (kvs : List (D × D)) : items (.dct t true kvs) = .ok (kvs.map (·.1)) := by cases t <;> rfl
@[simp] theorem items_lst (ds : List D) : items (.lst ds) = .ok ds := rfl
@[simp] theorem items_tup (ds : List D) : items (.tup ds) = .ok ds := rfl
@[simp] theorem items_scr (ns : List Int) : items (.scr ns) = .ok (ns.map .int) := rfl
@[simp] theorem items_str (x : Str) : items (.str x) = .ok (x.cps.toList.map fun c => .str ⟨#[c]⟩) := rfl
def frD : EV → Rz D := fun a => match a.fr with
  | .fz d => .ok d
  | _ => .stuck
@[simp] theorem frD_fz (d : D) : frD (.fz d) = .ok d := rfl
@[simp] theorem frD_new (w : OW) : frD (.ow true w) = .ok w.d := rfl
def mItems (m : Env → Rz EV) : Env → Rz (List D) := fun env => m env >>= fun a => frD a >>= items
theorem itl_ok {K : KC} {a : Addr} {vs : List V} {ds : List D} {G : Hp} (sq : SqL K.K G a vs) (r : Reps K G vs ds) : IterOk K (Itl K.K a) G ds where
  go := fun i G2 H2 l a b => by
    obtain ⟨d, hd⟩ : ∃ d, ds[i]? = some d := ⟨_, List.getElem?_eq_getElem l⟩
    obtain ⟨v, hv, _⟩ := r.get hd
    exact ⟨vs, v, (a.trans b).sqL sq, hv⟩
  stop := fun G2 H2 a b => ⟨vs, (a.trans b).sqL sq, by rw [r.length]; exact Nat.le_refl _⟩
  yld := fun i x G2 H2 H3 l a b y => by
    obtain ⟨rfl, y⟩ := y
    obtain ⟨d, hd⟩ : ∃ d, ds[i]? = some d := ⟨_, List.getElem?_eq_getElem l⟩
    obtain ⟨v, hv, rv⟩ := r.get hd
    have := y vs ((a.trans b).sqL sq)
    rw [hv] at this; cases this
    exact ⟨d, G2, hd, .refl b, rv.mono a⟩
theorem itt_ok {K : KC} {a : Addr} {vs : List V} {ds : List D} {G : Hp} (sq : SqT K.K G a vs) (r : Reps K G vs ds) : IterOk K (Itt K.K a) G ds where
  go := fun i G2 H2 l a b => by
    obtain ⟨d, hd⟩ : ∃ d, ds[i]? = some d := ⟨_, List.getElem?_eq_getElem l⟩
    obtain ⟨v, hv, _⟩ := r.get hd
    exact ⟨vs, v, (a.trans b).sqT sq, hv⟩
  stop := fun G2 H2 a b => ⟨vs, (a.trans b).sqT sq, by rw [r.length]; exact Nat.le_refl _⟩
  yld := fun i x G2 H2 H3 l a b y => by
    obtain ⟨rfl, y⟩ := y
    obtain ⟨d, hd⟩ : ∃ d, ds[i]? = some d := ⟨_, List.getElem?_eq_getElem l⟩
    obtain ⟨v, hv, rv⟩ := r.get hd
    have := y vs ((a.trans b).sqT sq)
    rw [hv] at this; cases this
    exact ⟨d, G2, hd, .refl b, rv.mono a⟩
theorem its_ok {K : KC} {x : Str} {G : Hp} : IterOk K (Its x) G (x.cps.toList.map fun c => .str ⟨#[c]⟩) where
  go := fun i G2 H2 l a b => by show i < x.cps.size; simpa using l
  stop := fun G2 H2 a b => by show x.cps.size ≤ _; simp
  yld := fun i v G2 H2 H3 l a b y => by
    obtain ⟨rfl, c, hc, rfl⟩ := y
    refine ⟨.str ⟨#[c]⟩, G2, ?_, .refl b, .str _⟩
    rw [List.getElem?_map]
    have : x.cps.toList[i]? = some c := by simpa using hc
    rw [this]; rfl
theorem RepK.at' {K : KC} {G : Hp} : ∀ {kvs : List (Key × V)} {ds : List (D × D)} {i : Nat} {k : Key} {v : V}, RepK K G kvs ds → kvs[i]? = some (k, v) → ∃ d, ds[i]? = some (dkV k, d) ∧ Rep K G v d
  | _, _, _, _, _, .nil, e => by simp at e
  | _, _, 0, _, _, .cons a _, e => by simp only [List.getElem?_cons_zero, Option.some.injEq, Prod.mk.injEq] at e; obtain ⟨rfl, rfl⟩ := e; exact ⟨_, rfl, a⟩
  | _, _, i + 1, _, _, .cons _ b, e => by
    obtain ⟨d, h1, h2⟩ := RepK.at' (i := i) b (by simpa using e)
    exact ⟨d, by simpa using h1, h2⟩
theorem RepT.at' {K : KC} {G : Hp} : ∀ {kvs : List (List Key × V)} {ds : List (D × D)} {i : Nat} {k : List Key} {v : V}, RepT K G kvs ds → kvs[i]? = some (k, v) → ∃ d, ds[i]? = some (.tup (k.map dkV), d) ∧ Rep K G v d
  | _, _, _, _, _, .nil, e => by simp at e
  | _, _, 0, _, _, .cons a _, e => by simp only [List.getElem?_cons_zero, Option.some.injEq, Prod.mk.injEq] at e; obtain ⟨rfl, rfl⟩ := e; exact ⟨_, rfl, a⟩
  | _, _, i + 1, _, _, .cons _ b, e => by
    obtain ⟨d, h1, h2⟩ := RepT.at' (i := i) b (by simpa using e)
    exact ⟨d, by simpa using h1, h2⟩
theorem RepK.len {K : KC} {G : Hp} : ∀ {kvs : List (Key × V)} {ds : List (D × D)}, RepK K G kvs ds → kvs.length = ds.length
  | _, _, .nil => rfl
  | _, _, .cons _ b => congrArg Nat.succ b.len
theorem RepT.len {K : KC} {G : Hp} : ∀ {kvs : List (List Key × V)} {ds : List (D × D)}, RepT K G kvs ds → kvs.length = ds.length
  | _, _, .nil => rfl
  | _, _, .cons _ b => congrArg Nat.succ b.len
theorem rep_kV {K : KC} {G : Hp} (k : Key) : Rep K G (kV k) (dkV k) := by cases k <;> constructor
theorem reps_kV {K : KC} {G : Hp} : ∀ ks : List Key, Reps K G (ks.map kV) (ks.map dkV)
  | [] => .nil
  | k :: r => .cons (rep_kV k) (reps_kV r)
theorem Ext.tup {G H : Hp} (s : Sub G H) {q : Addr} {vs : List V} (h : H q = some (.tup vs)) : Ext G H (upd G q (.tup vs)) H := by
  refine ⟨fun a u e => ?_, .refl, s.upd2 h, fun a e n => ?_⟩
  · by_cases z : a = q
    · subst z
      have := s a u e
      rw [h] at this
      cases this
      exact upd_same
    · rw [upd_ne z]; exact e
  · have z : a ≠ q := fun z => by
      subst z
      obtain ⟨o, k1, k2⟩ := n
      rw [h] at k1
      cases k1
      cases k2
    rw [upd_ne z]; exact e
theorem itk_ok {K : KC} {a : Addr} {o : Obj} {kvs : List (Key × V)} {ds : List (D × D)} {G : Hp} (sq : G a = some (.frz o (.dK kvs))) (r : RepK K G kvs ds) : IterOk K (Itk a o kvs) G (ds.map (·.1)) where
  go := fun i G2 H2 l a' b => ⟨b _ _ (a' _ _ sq), by rw [r.len]; simpa using l⟩
  stop := fun G2 H2 a' b => ⟨b _ _ (a' _ _ sq), by rw [r.len, List.length_map]; exact Nat.le_refl _⟩
  yld := fun i x G2 H2 H3 l a' b y => by
    obtain ⟨rfl, k, v, e, rfl⟩ := y
    obtain ⟨d, h1, _⟩ := r.at' e
    exact ⟨dkV k, G2, by rw [List.getElem?_map, h1]; rfl, .refl b, rep_kV k⟩
theorem itkt_ok {K : KC} {a : Addr} {o : Obj} {kvs : List (List Key × V)} {ds : List (D × D)} {G : Hp} (sq : G a = some (.frz o (.dT kvs))) (r : RepT K G kvs ds) : IterOk K (Itkt a o kvs) G (ds.map (·.1)) where
  go := fun i G2 H2 l a' b => ⟨b _ _ (a' _ _ sq), by rw [r.len]; simpa using l⟩
  stop := fun G2 H2 a' b => ⟨b _ _ (a' _ _ sq), by rw [r.len, List.length_map]; exact Nat.le_refl _⟩
  yld := fun i x G2 H2 H3 l a' b y => by
    obtain ⟨rfl, k, v, q, e, rfl, hq⟩ := y
    obtain ⟨d, h1, _⟩ := r.at' e
    exact ⟨.tup (k.map dkV), upd G2 q (.tup (k.map kV)), by rw [List.getElem?_map, h1]; rfl, .tup b hq, .tup (.of upd_same) (reps_kV k)⟩
def iSeq (K : PySem.W.Frag) (tl : TE) : TI := fun σ H R => tl σ H fun x H1 => (∃ a xs, x = .ref a ∧ SqL K H1 a xs ∧ R (Itl K a) H1) ∨ (∃ a xs, x = .ref a ∧ SqT K H1 a xs ∧ R (Itt K a) H1) ∨ (∃ y, x = .str y ∧ R (Its y) H1) ∨ (∃ d o, x = .ref d ∧ ((∃ kvs, H1 d = some (.frz o (.dK kvs)) ∧ R (Itk d o kvs) H1) ∨ ∃ kvs, H1 d = some (.frz o (.dT kvs)) ∧ R (Itkt d o kvs) H1))
theorem pi_seq {tg l : Expr} {tl : TE} (hl : PE X l tl) : PI X tg l (iSeq X.K tl) := by
  refine ⟨fun pins s σ H R I h => ?_⟩
  refine thn (hl.run pins s σ H _ I h) fun v s1 ⟨x, H1, I1, r1, q1⟩ => ?_
  rcases q1 with ⟨a, xs, e, hq, q⟩ | ⟨a, xs, e, hq, q⟩ | ⟨y, e, q⟩ | ⟨d, o, e, q⟩
  · subst e
    cases r1
    obtain ⟨its, rv, p, hz⟩ := I1.list hq
    refine wpAny_pyIter_list p.isList ?_
    refine ⟨s1.heap.objs.size, [s1.heap.objs.size], _, _, H1, rfl, I1.kept (t' := s1.toks) fun b o e => Heap.get?_push_of_some _ e, turn_list a _, ⟨_, Heap.get?_push_size _ rfl, rfl, rfl⟩, fun b hb => ?_, q⟩
    have e : b = s1.heap.objs.size := by simpa using hb
    subst e
    exact I1.fpOk (Nat.le_refl _) (I1.hok.fresh (Nat.le_refl _))
  · subst e
    cases r1
    obtain ⟨its, rv, p, hz⟩ := I1.tuple hq
    refine wpAny_pyIter_tuple (show s1.heap.IsTuple a its.toArray from p) ?_
    refine ⟨s1.heap.objs.size, [s1.heap.objs.size], _, _, H1, rfl, I1.kept (t' := s1.toks) fun b o e => Heap.get?_push_of_some _ e, turn_tuple a _, ⟨_, Heap.get?_push_size _ rfl, rfl, rfl⟩, fun b hb => ?_, q⟩
    have e : b = s1.heap.objs.size := by simpa using hb
    subst e
    exact I1.fpOk (Nat.le_refl _) (I1.hok.fresh (Nat.le_refl _))
  · subst e
    obtain ⟨t, rfl⟩ := r1
    cases ha : y.cps.all (· < 128)
    · exact wpAny_pyIter_wide ha (pi_one (tk := s1.toks) I1 _ (turn_str _ y t "str_iterator" (.inr rfl)) ⟨_, Heap.get?_push_size _ rfl, rfl, rfl⟩ q)
    · exact wpAny_pyIter_ascii ha (pi_one (tk := s1.toks) I1 _ (turn_str _ y t "str_ascii_iterator" (.inl rfl)) ⟨_, Heap.get?_push_size _ rfl, rfl, rfl⟩ q)
  · subst e
    obtain rfl : v = Value.ref d := r1
    rcases q with ⟨kvs, hd, q⟩ | ⟨kvs, hd, q⟩
    · obtain ⟨hs, hgd, hx, es, ep, vs, hdt, hsz, kv, hm⟩ := I1.frzK hd
      refine iter_keys hs hgd hx hdt (pi_one (tk := s1.toks) I1 _ (turn_keys _ hdt) ⟨_, Heap.get?_push_size _ rfl, rfl, ?_⟩ q)
      rw [hsz] <;> rfl
    · obtain ⟨hs, hgd, hx, es, ep, hdt, hsz, ent⟩ := I1.frzT hd
      refine iter_keys hs hgd hx hdt (pi_one (tk := s1.toks) I1 _ (turn_keysT _ hdt) ⟨_, Heap.get?_push_size _ rfl, rfl, ?_⟩ q)
      rw [hsz] <;> rfl
end
end DL
namespace DL
open PySem PySem.Spec PyProof.Rows L2
section
variable {X : Cx} {C : CT} {W : WX}
theorem frD_ok {a : EV} {d : D} (h : frD a = .ok d) : a.fr = .fz d := by
  unfold frD at h
  split at h
  · rename_i d' e; cases h; exact e
  · cases h
theorem frD_exc {a : EV} {e : Exn} : frD a ≠ .exc e := by
  unfold frD; split <;> simp
theorem items_exc {d : D} {e : Exn} : items d ≠ .exc e := by
  unfold items; split <;> simp
theorem di_seq {tg e : Expr} {m : Env → Rz EV} (h : DE X C W e m) : DI X C W tg e (mItems m) :=
  ⟨PI.imp (pi_seq h.pe) fun σ H R ⟨Z, G, env, er, q⟩ => by
    unfold mItems at q
    refine ⟨Z, G, env, er, ?_⟩
    cases ha : m env with
    | stuck => rw [ha] at q; exact q.elim
    | exc e => rw [ha] at q; exact q
    | ok a =>
      rw [ha] at q
      simp only [Rz.ok_bind] at q
      intro v G1 H1 x1 va
      obtain ⟨G2, x2, s2, va2⟩ := va.fr x1 .refl
      cases hd : frD a with
      | stuck => rw [hd] at q; exact q.elim
      | exc e => exact absurd hd frD_exc
      | ok d =>
        rw [hd] at q
        simp only [Rz.ok_bind] at q
        rw [frD_ok hd] at va2
        have va3 : Rep (kc X C) G2 v d := va2
        cases hi : items d with
        | stuck => rw [hi] at q; exact q.elim
        | exc e => exact absurd hi items_exc
        | ok ds =>
          rw [hi] at q
          cases va3 with
          | @lst a vs ds' sq rs =>
            cases hi
            exact .inl ⟨a, vs, rfl, .of (x2.s _ _ sq), q _ G2 H1 x2 (itl_ok (.of sq) rs)⟩
          | @tup a vs ds' sq rs =>
            cases hi
            exact .inr (.inl ⟨a, vs, rfl, x2.s.sqT sq, q _ G2 H1 x2 (itt_ok sq rs)⟩)
          | @scr a ns sq =>
            cases hi
            exact .inl ⟨a, _, rfl, x2.s.sqL sq, q _ G2 H1 x2 (itl_ok sq (Reps.ints ns))⟩
          | @str x =>
            cases hi
            exact .inr (.inr (.inl ⟨x, rfl, q _ G2 H1 x2 its_ok⟩))
          | @dk l a kvs ds' rd r =>
            cases l with
            | false => cases hi
            | true =>
              cases hi
              obtain ⟨o, e⟩ := rd.lk
              exact .inr (.inr (.inr ⟨a, o, rfl, .inl ⟨kvs, x2.s _ _ e, q _ G2 H1 x2 (itk_ok e r)⟩⟩))
          | @dt l a kvs ds' rd r =>
            cases l with
            | false => cases hi
            | true =>
              cases hi
              obtain ⟨o, e⟩ := rd.lk
              exact .inr (.inr (.inr ⟨a, o, rfl, .inr ⟨kvs, x2.s _ _ e, q _ G2 H1 x2 (itkt_ok e r)⟩⟩))
          | _ => cases hi⟩
theorem p62 : (2 : Int) ^ 62 = 4611686018427387904 := by decide +kernel
theorem p64 : (2 : Int) ^ 64 = 18446744073709551616 := by decide +kernel
theorem abs62 {j : Int} (h : j.natAbs < 4611686018427387904) : -(2 ^ 62) ≤ j ∧ j < 2 ^ 62 := by rw [p62]; omega
def upTo (lo : Int) (n : Nat) : List D := (List.range n).map fun (i : Nat) => .int (lo + i)
def mRng1 (a : Env → Rz (List EV)) : Env → Rz (List D) := fun env => a env >>= fun xs => match xs with
  | [.fz (.int j)] => if j.natAbs < 4611686018427387904 then .ok (upTo 0 j.toNat) else .stuck
  | _ => .stuck
def mRng2 (a : Env → Rz (List EV)) : Env → Rz (List D) := fun env => a env >>= fun xs => match xs with
  | [.fz (.int i), .fz (.int j)] => if i.natAbs < 4611686018427387904 ∧ j.natAbs < 4611686018427387904 then .ok (upTo i (j - i).toNat) else .stuck
  | _ => .stuck
theorem itr_ok {K : KC} {lo : Int} {n : Nat} {G : Hp} : IterOk K (Itr lo n) G (upTo lo n) where
  go := fun i G2 H2 l a b => by show i < n; simpa [upTo] using l
  stop := fun G2 H2 a b => by show n ≤ _; simp [upTo]
  yld := fun i v G2 H2 H3 l a b y => by
    obtain ⟨rfl, rfl⟩ := y
    have hl : i < n := by simpa [upTo] using l
    refine ⟨.int (lo + i), G2, ?_, .refl b, .int _⟩
    simp [upTo, hl]
theorem evs1 {K : KC} {Z : Ent} {Hs G H : Hp} {vs : List V} {e : EV} (h : EVs K Z Hs G H vs [e]) : ∃ v, vs = [v] ∧ EVok K Z Hs G H v e := by
  cases h with
  | cons a b => cases b; exact ⟨_, rfl, a⟩
theorem evs2 {K : KC} {Z : Ent} {Hs G H : Hp} {vs : List V} {e f : EV} (h : EVs K Z Hs G H vs [e, f]) : ∃ v u, vs = [v, u] ∧ EVok K Z Hs G H v e ∧ EVok K Z Hs G H u f := by
  cases h with
  | cons a b =>
    obtain ⟨u, rfl, k⟩ := evs1 b
    exact ⟨_, u, rfl, a, k⟩
theorem evs3 {K : KC} {Z : Ent} {Hs G H : Hp} {vs : List V} {e f g : EV} (h : EVs K Z Hs G H vs [e, f, g]) : ∃ v u t, vs = [v, u, t] ∧ EVok K Z Hs G H v e ∧ EVok K Z Hs G H u f ∧ EVok K Z Hs G H t g := by
  cases h with
  | cons a b =>
    obtain ⟨u, t, rfl, k, l⟩ := evs2 b
    exact ⟨_, u, t, rfl, a, k, l⟩
theorem rep_int {K : KC} {G : Hp} {v : V} {i : Int} (h : Rep K G v (.int i)) : v = .int i := by cases h; rfl
theorem rep_bl {K : KC} {G : Hp} {v : V} {i : Bool} (h : Rep K G v (.bl i)) : v = .bl i := by cases h; rfl
theorem rep_str {K : KC} {G : Hp} {v : V} {i : Str} (h : Rep K G v (.str i)) : v = .str i := by cases h; rfl
theorem rep_non {K : KC} {G : Hp} {v : V} (h : Rep K G v .non) : v = .non := by cases h; rfl
theorem di_range1 {tg a : Expr} {m : Env → Rz (List EV)} {p pos : Pos} (hm : X.mg "range" = none) (h : DA X C W [a] m) (hg : Gl X "range" := by rfl) (hs : starEach [a] X.env = [(false, eval a X.env)] := by rfl) :
    DI X C W tg (.Call (.Name "range" p) [a] [] pos) (mRng1 m) :=
  ⟨PI.imp (pi_range1 hg hm h.pa hs) fun σ H R ⟨Z, G, env, er, q⟩ => by
    unfold mRng1 at q
    refine ⟨Z, G, env, er, ?_⟩
    cases ha : m env with
    | stuck => rw [ha] at q; exact q.elim
    | exc e => rw [ha] at q; exact q
    | ok xs =>
      rw [ha] at q
      simp only [Rz.ok_bind] at q
      intro vs G1 H1 x1 va
      split at q
      · rename_i j heq
        split at heq
        · rename_i j'
          by_cases z : j'.natAbs < 4611686018427387904
          · rw [if_pos z] at heq
            cases heq
            obtain ⟨v, rfl, k⟩ := evs1 va
            exact ⟨j', by rw [rep_int k], (abs62 z).1, (abs62 z).2, q _ G1 H1 x1 itr_ok⟩
          · rw [if_neg z] at heq; cases heq
        · cases heq
      · rename_i e heq
        split at heq
        · split at heq <;> cases heq
        · cases heq
      · exact q.elim⟩
theorem di_range2 {tg a b : Expr} {m : Env → Rz (List EV)} {p pos : Pos} (hm : X.mg "range" = none) (h : DA X C W [a, b] m) (hg : Gl X "range" := by rfl) (hs : starEach [a, b] X.env = [(false, eval a X.env), (false, eval b X.env)] := by rfl) (hs2 : starEach [b] X.env = [(false, eval b X.env)] := by rfl) :
    DI X C W tg (.Call (.Name "range" p) [a, b] [] pos) (mRng2 m) :=
  ⟨PI.imp (pi_range2 hg hm h.pa hs hs2) fun σ H R ⟨Z, G, env, er, q⟩ => by
    unfold mRng2 at q
    refine ⟨Z, G, env, er, ?_⟩
    cases ha : m env with
    | stuck => rw [ha] at q; exact q.elim
    | exc e => rw [ha] at q; exact q
    | ok xs =>
      rw [ha] at q
      simp only [Rz.ok_bind] at q
      intro vs G1 H1 x1 va
      split at q
      · rename_i j heq
        split at heq
        · rename_i i' j'
          by_cases z : i'.natAbs < 4611686018427387904 ∧ j'.natAbs < 4611686018427387904
          · rw [if_pos z] at heq
            cases heq
            obtain ⟨v, u, rfl, k, l⟩ := evs2 va
            exact ⟨i', j', by rw [rep_int k, rep_int l], ⟨(abs62 z.1).1, (abs62 z.1).2, (abs62 z.2).1, (abs62 z.2).2⟩, q _ G1 H1 x1 itr_ok⟩
          · rw [if_neg z] at heq; cases heq
        · cases heq
      · rename_i e heq
        split at heq
        · split at heq <;> cases heq
        · cases heq
      · exact q.elim⟩

def forF (p : D → Env → Rz Env) (b : Env → Out) : List D → Env → Out
  | [], env => .nx env
  | d :: ds, env => match p d env with
    | .ok e => (match b e with
      | .nx e' => forF p b ds e'
      | .ct e' => forF p b ds e'
      | .bk e' => .nx e'
      | o => o)
    | _ => .stuck
def mFor (it : Env → Rz (List D)) (p : D → Env → Rz Env) (b : Env → Out) : Env → Out := fun env => match it env with
  | .ok ds => forF p b ds env
  | .exc e => .exc e env
  | .stuck => .stuck
theorem ds_for {tg iter : Expr} {body : List Stmt} {it : Env → Rz (List D)} {vs : List Nat} {p : D → Env → Rz Env} {b : Env → Out} {pos : Pos} (hp : PassesOwn (model X.prog X.w) X.A X.env X.xe) (hi : DI X C W tg iter it) (hg : DG X C tg vs p) (hb : DSs X C W body b) (hc : X.calm = true := by rfl)
    (hs : ∀ x, foldedSetIterable iter X.env x = pure x := by intro _; rfl) : DS X C W (.For tg iter body [] pos) (mFor it p b) :=
  ⟨PS.imp (ps_for hp hc hi.pi hg.pg hb.pss hs) fun D σ H ⟨Z, G, env, er, q⟩ => by
    unfold mFor at q
    refine ⟨Z, G, env, er, ?_⟩
    cases hit : it env with
    | stuck => rw [hit] at q; exact q.elim
    | exc e => rw [hit] at q; exact fun cls d G' H' x k => q σ H' G' cls d x.g (er.ext x) k
    | ok ds =>
      rw [hit] at q
      intro J G1 H1 x1 io
      refine ⟨fun i m σ' H' => m + i = ds.length ∧ ∃ G' env', Sub G1 G' ∧ ER (kc X C) Z G' H' σ' env' ∧ Post (kc X C) W Z D G' (forF p b (ds.drop i) env'), ⟨ds.length, rfl, G1, env, .refl, er.ext x1, Post.mono x1.g q⟩, ?_⟩
      rintro i m σ' H' ⟨hm, G2, env2, s2, er2, q2⟩
      by_cases hl : i < ds.length
      · refine .inr ⟨io.go i G2 H' hl s2 er2.sub, fun σ3 H3 => ∃ G3 env3, Sub G1 G3 ∧ ER (kc X C) Z G3 H3 σ3 env3 ∧ Post (kc X C) W Z D G3 (forF p b (ds.drop (i + 1)) env3), fun σ3 H3 ⟨G3, env3, a, b', c⟩ => ⟨m - 1, by omega, by omega, G3, env3, a, b', c⟩, fun x H3 y => ?_⟩
        obtain ⟨d, G3, hd, x3, rd⟩ := io.yld i x G2 H' H3 hl s2 er2.sub y
        have hdrop : ds.drop i = d :: ds.drop (i + 1) := by
          obtain ⟨hl', e⟩ := List.getElem?_eq_some_iff.mp hd
          rw [List.drop_eq_getElem_cons hl', e]
        rw [hdrop] at q2
        unfold forF at q2
        refine ⟨Z, G3, env2, d, er2.ext x3, rd, ?_⟩
        cases hpd : p d env2 with
        | stuck => rw [hpd] at q2; exact q2.elim
        | exc e => rw [hpd] at q2; exact q2.elim
        | ok e =>
          rw [hpd] at q2
          dsimp only at q2
          intro σ4 er4 _ _
          refine ⟨Z, G3, e, er4, ?_⟩
          have q2 := Post.mono x3.g q2
          have s13 : Sub G1 G3 := s2.trans x3.g
          cases hbe : b e with
          | nx e' => rw [hbe] at q2; exact fun σ5 H5 G5 s5 er5 => ⟨G5, e', s13.trans s5, er5, Post.mono s5 q2⟩
          | ct e' => rw [hbe] at q2; exact fun σ5 H5 G5 s5 er5 => ⟨G5, e', s13.trans s5, er5, Post.mono s5 q2⟩
          | bk e' => rw [hbe] at q2; exact q2
          | ret ev => rw [hbe] at q2; exact q2
          | exc e' en => rw [hbe] at q2; exact q2
          | stuck => rw [hbe] at q2; exact q2
      · have e : i = ds.length := by omega
        subst e
        rw [List.drop_length] at q2
        exact .inl ⟨io.stop G2 H' s2 er2.sub, q2 σ' H' G2 .refl er2⟩⟩
def fuel : Nat := 2 ^ 40
def whF (c : Env → Rz Bool) (b : Env → Out) : Nat → Env → Out
  | 0, _ => .stuck
  | n + 1, env => match c env with
    | .ok true => (match b env with
      | .nx e' => whF c b n e'
      | .ct e' => whF c b n e'
      | .bk e' => .nx e'
      | o => o)
    | .ok false => .nx env
    | .exc e => .exc e env
    | .stuck => .stuck
def mWhile (c : Env → Rz Bool) (b : Env → Out) : Env → Out := whF c b fuel
theorem ds_while {c : Expr} {body : List Stmt} {t : Env → Rz Bool} {b : Env → Out} {pos : Pos} (hp : PassesOwn (model X.prog X.w) X.A X.env X.xe) (hc : DT X C W c t) (hb : DSs X C W body b) : DS X C W (.While c body [] pos) (mWhile t b) :=
  ⟨PS.imp (ps_while hp hc.pt hb.pss) fun D σ H ⟨Z, G, env, er, q⟩ => by
    unfold mWhile at q
    refine ⟨fun m σ' H' => ∃ G' env', ER (kc X C) Z G' H' σ' env' ∧ Post (kc X C) W Z D G' (whF t b m env'), ⟨fuel, G, env, er, q⟩, ?_⟩
    rintro m σ' H' ⟨G', env', er', q'⟩
    cases m with
    | zero => exact q'.elim
    | succ n =>
      unfold whF at q'
      refine ⟨Z, G', env', er', ?_⟩
      cases ht : t env' with
      | stuck => rw [ht] at q'; exact q'.elim
      | exc e => rw [ht] at q'; exact fun cls d G2 H2 x k => q' σ' H2 G2 cls d x.g (er'.ext x) k
      | ok k =>
        rw [ht] at q'
        intro G2 H2 x2
        cases k with
        | false =>
          rw [if_neg Bool.false_ne_true]
          exact q' σ' H2 G2 x2.g (er'.ext x2)
        | true =>
          rw [if_pos rfl]
          dsimp only at q'
          refine ⟨fun σ3 H3 => ∃ G3 env3, ER (kc X C) Z G3 H3 σ3 env3 ∧ Post (kc X C) W Z D G3 (whF t b n env3), fun σ3 H3 h => ⟨n, Nat.lt_succ_self n, h⟩, Z, G2, env', er'.ext x2, ?_⟩
          have q' := Post.mono x2.g q'
          cases hbe : b env' with
          | nx e' => rw [hbe] at q'; exact fun σ5 H5 G5 s5 er5 => ⟨G5, e', er5, Post.mono s5 q'⟩
          | ct e' => rw [hbe] at q'; exact fun σ5 H5 G5 s5 er5 => ⟨G5, e', er5, Post.mono s5 q'⟩
          | bk e' => rw [hbe] at q'; exact q'
          | ret ev => rw [hbe] at q'; exact q'
          | exc e' en => rw [hbe] at q'; exact q'
          | stuck => rw [hbe] at q'; exact q'⟩

def lcF (p : D → Env → Rz Env) (t : Env → Rz Bool) (e : Env → Rz EV) (env : Env) : List D → List D → Rz (List D)
  | [], acc => .ok acc
  | d :: ds, acc => match p d env with
    | .ok en => (match t en with
      | .ok true => (match e en with
        | .ok ev => (match ev.fr with
          | .fz y => if acc.length < sizeLine then lcF p t e env ds (acc ++ [y]) else .stuck
          | _ => .stuck)
        | _ => .stuck)
      | .ok false => lcF p t e env ds acc
      | _ => .stuck)
    | _ => .stuck
def wipeE (env : Env) : List Nat → Env
  | [] => env
  | v :: vs => (wipeE env vs).set v .no
def mLc (it : Env → Rz (List D)) (p : D → Env → Rz Env) (t : Env → Rz Bool) (e : Env → Rz EV) (vs : List Nat) : Env → Rz EV := fun env => it env >>= fun ds => match lcF p t e (wipeE env vs) ds [] with
  | .ok out => .ok (.ow true (.lst out))
  | _ => .stuck
theorem ER.wipe {K : KC} {Z : Ent} {G H : Hp} {σ : L2.St} {env : Env} (er : ER K Z G H σ env) : ∀ vs : List Nat, ER K Z G H (L2.wipe σ vs) (wipeE env vs)
  | [] => er
  | v :: vs => (er.wipe vs).setN
theorem wipe_len (σ : L2.St) : ∀ vs : List Nat, (L2.wipe σ vs).length = σ.length := L2.wipe_length σ
theorem wipe_in (σ : L2.St) : ∀ {vs : List Nat} {i : Nat}, i ∈ vs → i < σ.length → (L2.wipe σ vs)[i]? = some none
  | v :: vs, i, h, l => by
    unfold L2.wipe
    by_cases e : v = i
    · subst e
      rw [List.getElem?_set_self (by rw [L2.wipe_length]; exact l)]
    · rw [List.getElem?_set_ne e]
      exact wipe_in σ (by rcases List.mem_cons.mp h with z | z; exact absurd z.symm e; exact z) l
theorem wipe_out (σ : L2.St) : ∀ {vs : List Nat} {i : Nat}, i ∉ vs → (L2.wipe σ vs)[i]? = σ[i]?
  | [], i, h => rfl
  | v :: vs, i, h => by
    unfold L2.wipe
    rw [List.mem_cons, not_or] at h
    rw [List.getElem?_set_ne (Ne.symm h.1)]
    exact wipe_out σ h.2
theorem wipe_eq {σ σ' : L2.St} {vs us : List Nat} (hl : σ'.length = (L2.wipe σ vs).length) (hu : ∀ i ∈ us, i ∈ vs) (h : ∀ i, i ∉ us → σ'[i]? = (L2.wipe σ vs)[i]?) : L2.wipe σ' vs = L2.wipe σ vs := by
  apply List.ext_getElem?
  intro i
  by_cases hi : i ∈ vs
  · by_cases hl2 : i < σ.length
    · rw [wipe_in σ hi hl2, wipe_in σ' hi (by rw [hl, L2.wipe_length]; exact hl2)]
    · rw [List.getElem?_eq_none (by rw [L2.wipe_length, hl, L2.wipe_length]; omega), List.getElem?_eq_none (by rw [L2.wipe_length]; omega)]
  · rw [wipe_out σ' hi, h i fun z => hi (hu i z)]
structure DTs (X : Cx) (C : CT) (W : WX) (es : List Expr) (m : Env → Rz Bool) : Prop where
  pts : PTs X es (tT (kc X C) W m)
theorem PTs.imp {es : List Expr} {t t' : TT} (h : PTs X es t) (k : ∀ σ H Q, t' σ H Q → t σ H Q) : PTs X es t' := ⟨fun pins s σ H Q I q => h.run pins s σ H Q I (k _ _ _ q)⟩
def mYes : Env → Rz Bool := fun _ => .ok true
theorem dts_nil : DTs X C W [] mYes := ⟨PTs.imp pts_nil fun σ H Q ⟨Z, G, env, er, q⟩ => q G H (.refl er.sub)⟩
theorem dts_one {c : Expr} {t : Env → Rz Bool} (h : DT X C W c t) : DTs X C W [c] t := ⟨pts_one h.pt⟩
abbrev W0 : WX := fun _ _ _ _ => False
theorem lc_go {it : Env → Rz (List D)} {us : List Nat} {p : D → Env → Rz Env} {t : Env → Rz Bool} {e : Env → Rz EV} {vs : List Nat} {σ : L2.St} {H : Hp} {Q : VK} (hu : ∀ i ∈ us, i ∈ vs)
    (h : tE (kc X C) W (mLc it p t e vs) σ H Q) : tLc (tI (kc X C) W it) (tG (kc X C) us p) (tT (kc X C) W0 t) (tE (kc X C) W0 e) vs σ H Q := by
  obtain ⟨Z, G, env, er, q⟩ := h
  unfold mLc at q
  refine ⟨Z, G, env, er, ?_⟩
  cases hit : it env with
  | stuck => rw [hit] at q; exact q.elim
  | exc e => rw [hit] at q; exact q
  | ok ds =>
    rw [hit] at q
    simp only [Rz.ok_bind] at q
    intro J G1 H1 x1 io LD hD
    cases hlc : lcF p t e (wipeE env vs) ds [] with
    | stuck => rw [hlc] at q; exact q.elim
    | exc e => rw [hlc] at q; exact q.elim
    | ok out =>
      rw [hlc] at q
      dsimp only at q
      -- the heap without the new list
      refine ⟨fun i m H' => m + i = ds.length ∧ ∃ G' acc avs, Ext G1 (upd H1 LD (.lst [])) G' (upd H' LD (.lst [])) ∧ H' LD = some (.lst avs) ∧ G' LD = none ∧ Reps (kc X C) G' avs acc ∧ ER (kc X C) Z G' H' (L2.wipe σ vs) (wipeE env vs) ∧ lcF p t e (wipeE env vs) (ds.drop i) acc = .ok out,
        ⟨ds.length, rfl, G1, [], [], (by rw [upd_upd]; exact Ext.refl (x1.s.updR (x1.s.none hD))), upd_same, x1.s.none hD, .nil, ((er.ext x1).ext (.lay x1.s hD)).wipe vs, hlc⟩, ?_⟩
      rintro i m H2 ⟨hm, G2, acc, avs, x2, hl2, hg2, ra, er2, run⟩
      by_cases hl : i < ds.length
      · have s12 : Sub G1 G2 := x2.g
        refine .inr ⟨io.go i G2 H2 hl s12 er2.sub, fun H' => ∃ G' acc avs, Ext G1 (upd H1 LD (.lst [])) G' (upd H' LD (.lst [])) ∧ H' LD = some (.lst avs) ∧ G' LD = none ∧ Reps (kc X C) G' avs acc ∧ ER (kc X C) Z G' H' (L2.wipe σ vs) (wipeE env vs) ∧ lcF p t e (wipeE env vs) (ds.drop (i + 1)) acc = .ok out,
          fun H' h => ⟨m - 1, by omega, by omega, h⟩, fun x H3 y => ?_⟩
        obtain ⟨d, G3, hd, x3, rd⟩ := io.yld i x G2 H2 H3 hl s12 er2.sub y
        have hdrop : ds.drop i = d :: ds.drop (i + 1) := by
          obtain ⟨hl', e⟩ := List.getElem?_eq_some_iff.mp hd
          rw [List.drop_eq_getElem_cons hl', e]
        rw [hdrop] at run
        unfold lcF at run
        refine ⟨Z, G3, wipeE env vs, d, er2.ext x3, rd, ?_⟩
        cases hpd : p d (wipeE env vs) with
        | stuck => rw [hpd] at run; cases run
        | exc e => rw [hpd] at run; cases run
        | ok en =>
          rw [hpd] at run
          dsimp only at run
          intro σ4 er4 l4 f4
          refine ⟨wipe_eq l4 hu f4, Z, G3, en, er4, ?_⟩
          have hl3 : H3 LD = some (.lst avs) := x3.h _ _ hl2
          have hg3 : G3 LD = none := x3.n LD hg2 ⟨_, hl2, rfl⟩
          -- how the end of a turn is told
          have back : ∀ (G5 H5 : Hp), Ext G3 H3 G5 H5 → Ext G1 (upd H1 LD (.lst [])) G5 (upd H5 LD (.lst [])) ∧ H5 LD = some (.lst avs) ∧ G5 LD = none ∧ Reps (kc X C) G5 avs acc ∧ ER (kc X C) Z G5 H5 (L2.wipe σ vs) (wipeE env vs) := fun G5 H5 x5 => by
            have x25 := x3.trans x5
            have hg5 : G5 LD = none := x5.n LD hg3 ⟨_, hl3, rfl⟩
            refine ⟨⟨x2.g.trans x25.g, fun a o k => ?_, x25.s.updR hg5, fun a k n => ?_⟩, x5.h _ _ hl3, hg5, ra.mono x25.g, er2.ext x25⟩
            · by_cases ha : a = LD
              · subst ha; rw [upd_same] at k ⊢; exact k
              · have := x2.h a o k
                rw [upd_ne ha] at this ⊢
                exact x25.h a o this
            · by_cases ha : a = LD
              · rw [ha]; exact hg5
              · refine x25.n a (x2.n a k n) ?_
                have n2 := n.mono x2.h
                obtain ⟨o, e, z⟩ := n2
                rw [upd_ne ha] at e
                exact ⟨o, e, z⟩
          cases ht : t en with
          | stuck => rw [ht] at run; cases run
          | exc e => rw [ht] at run; cases run
          | ok k =>
            rw [ht] at run
            intro G5 H5 x5
            obtain ⟨b1, b2, b3, b4, b5⟩ := back G5 H5 x5
            cases k with
            | false =>
              rw [if_neg Bool.false_ne_true]
              exact ⟨G5, acc, avs, b1, b2, b3, b4, b5, run⟩
            | true =>
              rw [if_pos rfl]
              dsimp only at run
              refine ⟨Z, G5, en, er4.ext x5, ?_⟩
              cases he : e en with
              | stuck => rw [he] at run; cases run
              | exc e => rw [he] at run; cases run
              | ok ev =>
                rw [he] at run
                dsimp only at run
                intro v G6 H6 x6 v6
                obtain ⟨G7, x7, s7, v7⟩ := v6.fr x6 .refl
                cases hf : ev.fr with
                | ow n w => rw [hf] at run; cases run
                | fz y =>
                  rw [hf] at run v7
                  dsimp only at run
                  by_cases hz : acc.length < sizeLine
                  · rw [if_pos hz] at run
                    obtain ⟨c1, c2, c3, c4, c5⟩ := back G7 H6 (x5.trans x7)
                    refine ⟨avs, c2, by rw [b4.length]; exact hz, G7, acc ++ [y], avs ++ [v], ?_, upd_same, c3, c4.append (.cons v7 .nil), ?_, run⟩
                    · rw [upd_upd]; exact c1
                    · -- the slots don't see the new list
                      refine ⟨c5.len, c5.zg, c5.zh.updR ?_, c5.zzz, c5.sub.updR c3, c5.new, fun j x e => ?_, c5.own, c5.dis⟩
                      · cases z : Z.H LD with
                        | none => rfl
                        | some o =>
                          have := (er.ext x1).zh LD o z
                          rw [hD] at this; cases this
                      · obtain ⟨u, h1, h2⟩ := c5.at' j x e
                        refine ⟨u, h1, ?_⟩
                        cases x with
                        | no => trivial
                        | val d => exact h2
                        | exn e => exact h2
                        | own w =>
                          obtain ⟨q', h3, h4⟩ := h2
                          -- an own container stood ahead of the comprehension
                          have hq : q' ≠ LD := fun hq => by
                            subst hq
                            subst h3
                            have e0 := ((er.ext x1).wipe vs).at' j _ e
                            obtain ⟨u', g1, q2, g2, g3⟩ := e0
                            rw [h1] at g1; cases g1
                            cases g2
                            obtain ⟨o, g4, _⟩ := g3.some
                            rw [hD] at g4; cases g4
                          exact ⟨q', h3, h4.mono .refl fun o k => by rw [upd_ne hq]; exact k⟩
                  · rw [if_neg hz] at run; cases run
      · have e : i = ds.length := by omega
        subst e
        rw [List.drop_length] at run
        unfold lcF at run
        cases run
        refine .inl ⟨io.stop G2 H2 x2.g er2.sub, q (.ref LD) G2 H2 ?_ ⟨LD, rfl, ⟨avs, hl2, ra⟩, hg2, ?_, fun _ => x1.h |> fun s => ?_⟩⟩
        · refine ⟨x1.g.trans x2.g, fun a o k => ?_, er2.sub, fun a k n => ?_⟩
          · have ha : a ≠ LD := fun ha => by subst ha; have := x1.h a o k; rw [hD] at this; cases this
            have := x2.h a o (by rw [upd_ne ha]; exact x1.h a o k)
            rw [upd_ne ha] at this; exact this
          · by_cases ha : a = LD
            · rw [ha]; exact hg2
            · refine x2.n a (x1.n a k n) ?_
              obtain ⟨o, e, z⟩ := n.mono x1.h
              exact ⟨o, by rw [upd_ne ha]; exact e, z⟩
        · cases z : Z.H LD with
          | none => rfl
          | some o =>
            have := (er.ext x1).zh LD o z
            rw [hD] at this; cases this
        · exact s.none hD
theorem de_lc {elt tg iter : Expr} {ifs : List Expr} {scope : Scope} {own : List (Str × Nat)} {pos : Pos} {it : Env → Rz (List D)} {us vs : List Nat} {p : D → Env → Rz Env} {t : Env → Rz Bool} {e : Env → Rz EV} (hN : X.N.Nodup) (hi : DI X C W tg iter it) (ok : BlkOk X.N X.env.scope scope own) (hvs : vs = own.map (·.2))
    (hu : ∀ i ∈ us, i ∈ vs)
    (hg : ∀ (s : Shared) (H : Hp) (L : Addr) (cl : List (Str × Addr)) (fp : List Addr), DG (X.blk s H scope (compEnvC scope cl L X.env) fp) C tg us p) (ht : ∀ (s : Shared) (H : Hp) (L : Addr) (cl : List (Str × Addr)) (fp : List Addr), DTs (X.blk s H scope (compEnvC scope cl L X.env) fp) C W0 ifs t)
    (he : ∀ (s : Shared) (H : Hp) (L : Addr) (cl : List (Str × Addr)) (fp : List Addr), DE (X.blk s H scope (compEnvC scope cl L X.env) fp) C W0 elt e) (hc : X.calm = true := by rfl) (hs : ∀ x, foldedSetIterable iter X.env x = pure x := by intro _; rfl) :
    DE X C W (.ListComp elt [⟨tg, iter, ifs, 0⟩] scope pos) (mLc it p t e vs) := by
  subst hvs
  exact ⟨PE.imp (pe_lc hc hN hi.pi ok (fun s H L cl fp => (hg s H L cl fp).pg) (fun s H L cl fp => (ht s H L cl fp).pts) (fun s H L cl fp => (he s H L cl fp).pe) hs) fun σ H Q h => lc_go hu h⟩
theorem ds_setLcF {i : Nat} {y : Str} {py : Pos} {elt tg iter : Expr} {ifs : List Expr} {scope : Scope} {own : List (Str × Nat)} {pos spos : Pos} {it : Env → Rz (List D)} {us vs : List Nat} {p : D → Env → Rz Env} {t : Env → Rz Bool} {e : Env → Rz EV} (hN : X.N.Nodup)
    (hsw : swapsWith (.ListComp elt [⟨tg, iter, ifs, 0⟩] scope pos) (some (.Name y py)) spos.line X.env = pure true) (hi : DI X C W tg iter it) (ok : BlkOk X.N X.env.scope scope own) (hvs : vs = own.map (·.2))
    (hu : ∀ i ∈ us, i ∈ vs)
    (hg : ∀ (s : Shared) (H : Hp) (L : Addr) (cl : List (Str × Addr)) (fp : List Addr), DG (X.blk s H scope (compEnvC scope cl L X.env) fp) C tg us p) (ht : ∀ (s : Shared) (H : Hp) (L : Addr) (cl : List (Str × Addr)) (fp : List Addr), DTs (X.blk s H scope (compEnvC scope cl L X.env) fp) C W0 ifs t)
    (he : ∀ (s : Shared) (H : Hp) (L : Addr) (cl : List (Str × Addr)) (fp : List Addr), DE (X.blk s H scope (compEnvC scope cl L X.env) fp) C W0 elt e) (hy : X.N[i]? = some y := by rfl) (hyl : X.env.scope.names.lookup y = some .local := by rfl) (hc : X.calm = true := by rfl) (hs : ∀ x, foldedSetIterable iter X.env x = pure x := by intro _; rfl) :
    DS X C W (.Assign [.Name y py] (.ListComp elt [⟨tg, iter, ifs, 0⟩] scope pos) spos) (mSetF i (mLc it p t e vs)) := by
  subst hvs
  exact ⟨PS.imp (ps_setLc hc hN hy hyl hsw hi.pi ok (fun s H L cl fp => (hg s H L cl fp).pg) (fun s H L cl fp => (ht s H L cl fp).pts) (fun s H L cl fp => (he s H L cl fp).pe) hs) fun D σ H h => lc_go hu (onE_go h fun Z G1 H1 env v a er z s va q fr => by
    obtain ⟨G2, s2, er2, va2⟩ := frz_go er va fr
    unfold stF at q
    cases ha : a.fr with
    | ow n w => rw [ha] at q; exact q.elim
    | fz d =>
      rw [ha] at q va2
      exact q _ H1 G2 s2 (er2.setV va2))⟩
theorem ds_setLcO {i : Nat} {y : Str} {py : Pos} {elt tg iter : Expr} {ifs : List Expr} {scope : Scope} {own : List (Str × Nat)} {pos spos : Pos} {it : Env → Rz (List D)} {us vs : List Nat} {p : D → Env → Rz Env} {t : Env → Rz Bool} {e : Env → Rz EV} (hN : X.N.Nodup)
    (hsw : swapsWith (.ListComp elt [⟨tg, iter, ifs, 0⟩] scope pos) (some (.Name y py)) spos.line X.env = pure true) (hi : DI X C W tg iter it) (ok : BlkOk X.N X.env.scope scope own) (hvs : vs = own.map (·.2))
    (hu : ∀ i ∈ us, i ∈ vs)
    (hg : ∀ (s : Shared) (H : Hp) (L : Addr) (cl : List (Str × Addr)) (fp : List Addr), DG (X.blk s H scope (compEnvC scope cl L X.env) fp) C tg us p) (ht : ∀ (s : Shared) (H : Hp) (L : Addr) (cl : List (Str × Addr)) (fp : List Addr), DTs (X.blk s H scope (compEnvC scope cl L X.env) fp) C W0 ifs t)
    (he : ∀ (s : Shared) (H : Hp) (L : Addr) (cl : List (Str × Addr)) (fp : List Addr), DE (X.blk s H scope (compEnvC scope cl L X.env) fp) C W0 elt e) (hy : X.N[i]? = some y := by rfl) (hyl : X.env.scope.names.lookup y = some .local := by rfl) (hc : X.calm = true := by rfl) (hs : ∀ x, foldedSetIterable iter X.env x = pure x := by intro _; rfl) :
    DS X C W (.Assign [.Name y py] (.ListComp elt [⟨tg, iter, ifs, 0⟩] scope pos) spos) (mSetO i (mLc it p t e vs)) := by
  subst hvs
  exact ⟨PS.imp (ps_setLc hc hN hy hyl hsw hi.pi ok (fun s H L cl fp => (hg s H L cl fp).pg) (fun s H L cl fp => (ht s H L cl fp).pts) (fun s H L cl fp => (he s H L cl fp).pe) hs) fun D σ H h => lc_go hu (onE_go h fun Z G1 H1 env v a er z s va q fr => by
    unfold stO at q
    split at q
    · rename_i w
      obtain ⟨p, rfl, h1, h2, h3, h4⟩ := va
      exact q _ H1 G1 .refl (er.setO h1 h2 h3 fun j x v _ e1 e2 => fr p (h4 rfl) j x v e1 e2)
    · exact q.elim)⟩

abbrev Fn := List D → Rz EV
def spD (K : KC) (n : Nat) (F : Fn) : Sp := fun vs H Q E => ∃ G ds, Sub G H ∧ Reps K G vs ds ∧ ds.length = n ∧ match F ds with
  | .ok ev => ∀ v G' H', Ext G H G' H' → EVok K ⟨G, H⟩ H G' H' v ev → Q v H'
  | .exc e => ∀ cls d G' H', Ext G H G' H' → ExcOk K G' H' cls d e → E cls d H'
  | .stuck => False
def runB (N : Nat) (b : Env → Out) : Fn := fun ds => match b (ds.map SL.val ++ List.replicate (N - ds.length) SL.no) with
  | .nx _ => .ok (.fz .non)
  | .ret ev => .ok ev
  | .exc e _ => .exc e
  | _ => .stuck
theorem er_start {K : KC} {G H : Hp} {vs : List V} {ds : List D} (s : Sub G H) (r : Reps K G vs ds) (N : List Str) (hN : ds.length ≤ N.length) : ER K ⟨G, H⟩ G H (start N vs) (ds.map SL.val ++ List.replicate (N.length - ds.length) SL.no) := by
  have hl := r.length
  have noown : ∀ (i : Nat) (x : SL) (v : Option V) (p : Addr), (ds.map SL.val ++ List.replicate (N.length - ds.length) SL.no)[i]? = some x → ¬ x.owns v p := fun i x v p e ⟨⟨w, z⟩, _⟩ => by
    subst z
    rw [List.getElem?_append] at e
    split at e
    · rw [List.getElem?_map] at e
      cases q : ds[i]? with
      | none => rw [q] at e; cases e
      | some d => rw [q] at e; cases e
    · rw [List.getElem?_replicate] at e
      split at e <;> cases e
  refine ⟨by simp [L2.start, hl], .refl, .refl, s, s, fun a n z => absurd z n, fun i x e => ?_, fun i x v p e _ o => absurd o (noown i x v p e), fun i j x y v u p e _ o => absurd o (noown i x v p e)⟩
  rw [List.getElem?_append] at e
  unfold L2.start
  rw [List.getElem?_append]
  simp only [List.length_map] at e ⊢
  rw [hl]
  split at e
  · rename_i hi
    rw [if_pos hi]
    rw [List.getElem?_map] at e ⊢
    cases q : ds[i]? with
    | none => rw [q] at e; cases e
    | some d =>
      rw [q] at e; cases e
      obtain ⟨v, h1, h2⟩ := r.get q
      exact ⟨some v, by rw [h1]; rfl, v, rfl, h2⟩
  · rename_i hi
    rw [if_neg hi]
    rw [List.getElem?_replicate] at e ⊢
    split at e
    · rename_i hj
      cases e
      rw [if_pos hj]
      exact ⟨none, rfl, trivial⟩
    · cases e
theorem ER.toExt {K : KC} {Z : Ent} {G H : Hp} {σ : L2.St} {env : Env} (er : ER K Z G H σ env) : Ext Z.G Z.H G H :=
  ⟨er.zg, er.zh, er.sub, fun a n k => by
    cases q : G a with
    | none => rfl
    | some o => exact absurd k (er.new a (by rw [q]; simp) n)⟩
section
variable {P : Program} {w : World} {mg : Str → Option Value} {base : Heap}
theorem fn_data {K : KC} {x qual : Str} {st : Stmt} {f : Addr} {fd : FuncData} {N ps : List Str} {k : Nat} {b : Env → Out} (F : L2.Fun K.K x qual st f fd) (S : FnScope N ps (defScope st)) (hn : ps.length ≤ N.length)
    (hbody : ∀ (cdv : Value) (A : Around) (outer : List PySem.Env) (s : Shared) (H : Hp) (E : XK), Room k (A.deeper (envOfC qual (defScope st) s.heap.objs.size f cdv)) →
      let X := cxOf (L2.CX P w) P w K.K mg base N qual (defScope st) f cdv A outer s H E
      PassesOwn (model X.prog X.w) X.A X.env X.xe → Takes X (fun cls d _ H => E cls d H) → DSs X K.C (fun cls d _ H => E cls d H) (defBody st) b) : FnOk P w K.K mg base (L2.CX P w) (k + 1) f fd ps (spD K ps.length (runB N.length b)) := by
  obtain ⟨oc, od, kV, doc, pm, an, cdv, ct, osl, rfl, lk, hcd⟩ := F.ex
  refine fn_of lk hcd S (fun vs H Q E ⟨G, ds, _, r, l, _⟩ => r.length.trans l) fun A outer s H vs Q E hr ⟨G, ds, hs, r, l, h⟩ => ?_
  refine ⟨_, (hbody cdv A outer s H E hr (passes_of rfl) (takes_of rfl rfl rfl rfl)).pss, ⟨G, H⟩, G, _, er_start hs r N (by rw [l]; exact hn), ?_⟩
  unfold runB at h
  show Post K _ _ _ _ _
  cases hb : b (ds.map SL.val ++ List.replicate (N.length - ds.length) SL.no) with
  | nx e =>
    rw [hb] at h
    exact fun σ H' G' s' er => h .non G' H' er.toExt .non
  | ret ev =>
    rw [hb] at h
    refine fun σ env v H' G' Hs s' er hz va => h v G' H' er.toExt ?_
    exact va.start hz
  | exc e env =>
    rw [hb] at h
    exact fun σ H' G' cls d s' er k => h cls d G' H' er.toExt k
  | bk e => rw [hb] at h; exact h.elim
  | ct e => rw [hb] at h; exact h.elim
  | stuck => rw [hb] at h; exact h.elim
end
end
end DL
namespace DL
open PySem PySem.Spec PyProof.Rows L2

def key? : D → Option Key
  | .int i => some (.inl i)
  | .str x => some (.inr x)
  | _ => none
def keys? : List D → Option (List Key)
  | [] => some []
  | d :: ds => (key? d).bind fun k => (keys? ds).map (k :: ·)
def keyT? : D → Option (List Key)
  | .tup ds => keys? ds
  | _ => none
theorem key?_ok {d : D} {k : Key} (h : key? d = some k) : d = dkV k := by
  unfold key? at h
  split at h <;> cases h <;> rfl
theorem keys?_ok : ∀ {ds : List D} {ks : List Key}, keys? ds = some ks → ds = ks.map dkV
  | [], _, h => by cases h; rfl
  | d :: ds, ks, h => by
    unfold keys? at h
    cases hk : key? d with
    | none => rw [hk] at h; cases h
    | some k =>
      rw [hk, Option.bind_some] at h
      cases hr : keys? ds with
      | none => rw [hr] at h; cases h
      | some r =>
        rw [hr] at h
        cases h
        rw [key?_ok hk, keys?_ok hr]; rfl
theorem keyT?_ok {d : D} {ks : List Key} (h : keyT? d = some ks) : d = .tup (ks.map dkV) := by
  unfold keyT? at h
  split at h
  · rw [keys?_ok h]
  · cases h
theorem key?_dk (k : Key) : key? (dkV k) = some k := by cases k <;> rfl
theorem keys?_dk : ∀ ks : List Key, keys? (ks.map dkV) = some ks
  | [] => rfl
  | k :: r => by rw [List.map_cons, keys?, key?_dk, keys?_dk r]; rfl
theorem dkV_inj {a b : Key} (h : dkV a = dkV b) : a = b := by
  have := congrArg key? h
  rw [key?_dk, key?_dk] at this
  exact Option.some.inj this
def keyEq (a b : D) : Bool := match key? a, key? b with
  | some j, some k => decide (j = k)
  | none, none => (match keyT? a, keyT? b with
    | some j, some k => decide (j = k)
    | _, _ => false)
  | _, _ => false
@[simp] theorem keyEq_int (i j : Int) : keyEq (.int i) (.int j) = decide (i = j) := by simp [keyEq, key?]
@[simp] theorem keyEq_str (i j : Str) : keyEq (.str i) (.str j) = decide (i = j) := by simp [keyEq, key?]
theorem keyEq_dk (j k : Key) : keyEq (dkV j) (dkV k) = decide (j = k) := by unfold keyEq; rw [key?_dk, key?_dk]
theorem keyEq_dt (j k : List Key) : keyEq (.tup (j.map dkV)) (.tup (k.map dkV)) = decide (j = k) := by
  unfold keyEq
  show (match keys? (j.map dkV), keys? (k.map dkV) with
    | some j, some k => decide (j = k)
    | _, _ => false) = _
  rw [keys?_dk, keys?_dk]
def dfind (kvs : List (D × D)) (k : D) : Option D := (kvs.find? fun kv => keyEq kv.1 k).map (·.2)
def dstore (kvs : List (D × D)) (k v : D) : List (D × D) :=
  if (kvs.any fun kv => keyEq kv.1 k) = true then kvs.map (fun kv => if keyEq kv.1 k = true then (kv.1, v) else kv) else kvs ++ [(k, v)]
def isKeyD (t : Bool) (d : D) : Bool := if t = true then (keyT? d).isSome else (key? d).isSome
@[simp] theorem isKeyD_str (x : Str) : isKeyD false (.str x) = true := rfl
@[simp] theorem isKeyD_int (x : Int) : isKeyD false (.int x) = true := rfl
theorem dfind_nil (k : D) : dfind [] k = none := rfl
theorem dfind_cons (p : D × D) (r : List (D × D)) (k : D) : dfind (p :: r) k = if keyEq p.1 k = true then some p.2 else dfind r k := by
  unfold dfind
  rw [List.find?_cons]
  cases keyEq p.1 k <;> rfl
theorem dfind_any (kvs : List (D × D)) (k : D) : (kvs.any fun kv => keyEq kv.1 k) = (dfind kvs k).isSome := by
  induction kvs with
  | nil => rfl
  | cons p r ih =>
    rw [List.any_cons, dfind_cons, ih]
    cases keyEq p.1 k <;> simp
section
variable {K : KC} {G : Hp}
def RelD (K : KC) (G : Hp) : Option V → Option D → Prop
  | some v, some d => Rep K G v d
  | none, none => True
  | _, _ => False
theorem RepK.find {k : Key} : ∀ {kvs : List (Key × V)} {ds : List (D × D)}, RepK K G kvs ds → RelD K G (valV kvs k) (dfind ds (dkV k))
  | _, _, .nil => trivial
  | _, _, .cons (k := j) (v := v) (vs := vs) (d := d) (ds := ds) a b => by
    rw [dfind_cons]
    show RelD K G _ (if keyEq (dkV j) (dkV k) = true then _ else _)
    rw [keyEq_dk]
    by_cases z : j = k
    · rw [valV_pos (p := (j, v)) z, if_pos (by simpa using z)]; exact a
    · rw [valV_neg (p := (j, v)) z, if_neg (by simpa using z)]; exact b.find
theorem RepT.find {k : List Key} : ∀ {kvs : List (List Key × V)} {ds : List (D × D)}, RepT K G kvs ds → RelD K G (valV kvs k) (dfind ds (.tup (k.map dkV)))
  | _, _, .nil => trivial
  | _, _, .cons (k := j) (v := v) (vs := vs) (d := d) (ds := ds) a b => by
    rw [dfind_cons]
    show RelD K G _ (if keyEq (.tup (j.map dkV)) (.tup (k.map dkV)) = true then _ else _)
    rw [keyEq_dt]
    by_cases z : j = k
    · rw [valV_pos (p := (j, v)) z, if_pos (by simpa using z)]; exact a
    · rw [valV_neg (p := (j, v)) z, if_neg (by simpa using z)]; exact b.find
theorem RepK.length : ∀ {kvs : List (Key × V)} {ds : List (D × D)}, RepK K G kvs ds → kvs.length = ds.length
  | _, _, .nil => rfl
  | _, _, .cons _ b => congrArg Nat.succ b.length
theorem RepT.length : ∀ {kvs : List (List Key × V)} {ds : List (D × D)}, RepT K G kvs ds → kvs.length = ds.length
  | _, _, .nil => rfl
  | _, _, .cons _ b => congrArg Nat.succ b.length
theorem RepK.repl {k : Key} {v : V} {d : D} (r : Rep K G v d) : ∀ {kvs : List (Key × V)} {ds : List (D × D)}, RepK K G kvs ds →
    RepK K G (kvs.map fun kv => if kv.1 = k then (kv.1, v) else kv) (ds.map fun kv => if keyEq kv.1 (dkV k) = true then (kv.1, d) else kv)
  | _, _, .nil => .nil
  | _, _, .cons (k := j) (v := v') (vs := vs) (d := d') (ds := ds) a b => by
    rw [List.map_cons, List.map_cons]
    by_cases z : j = k
    · rw [if_pos z, if_pos (by show keyEq (dkV j) (dkV k) = true; rw [keyEq_dk]; simpa using z)]; exact .cons r (b.repl r)
    · rw [if_neg z, if_neg (by show ¬ keyEq (dkV j) (dkV k) = true; rw [keyEq_dk]; simpa using z)]; exact .cons a (b.repl r)
theorem RepT.repl {k : List Key} {v : V} {d : D} (r : Rep K G v d) : ∀ {kvs : List (List Key × V)} {ds : List (D × D)}, RepT K G kvs ds →
    RepT K G (kvs.map fun kv => if kv.1 = k then (kv.1, v) else kv) (ds.map fun kv => if keyEq kv.1 (.tup (k.map dkV)) = true then (kv.1, d) else kv)
  | _, _, .nil => .nil
  | _, _, .cons (k := j) (v := v') (vs := vs) (d := d') (ds := ds) a b => by
    rw [List.map_cons, List.map_cons]
    by_cases z : j = k
    · rw [if_pos z, if_pos (by show keyEq (.tup (j.map dkV)) (.tup (k.map dkV)) = true; rw [keyEq_dt]; simpa using z)]; exact .cons r (b.repl r)
    · rw [if_neg z, if_neg (by show ¬ keyEq (.tup (j.map dkV)) (.tup (k.map dkV)) = true; rw [keyEq_dt]; simpa using z)]; exact .cons a (b.repl r)
theorem RepK.snoc {k : Key} {v : V} {d : D} (r : Rep K G v d) : ∀ {kvs : List (Key × V)} {ds : List (D × D)}, RepK K G kvs ds → RepK K G (kvs ++ [(k, v)]) (ds ++ [(dkV k, d)])
  | _, _, .nil => .cons r .nil
  | _, _, .cons a b => .cons a (b.snoc r)
theorem RepT.snoc {k : List Key} {v : V} {d : D} (r : Rep K G v d) : ∀ {kvs : List (List Key × V)} {ds : List (D × D)}, RepT K G kvs ds → RepT K G (kvs ++ [(k, v)]) (ds ++ [(.tup (k.map dkV), d)])
  | _, _, .nil => .cons r .nil
  | _, _, .cons a b => .cons a (b.snoc r)
theorem RelD.some_eq {o : Option V} {p : Option D} (h : RelD K G o p) : o.isSome = p.isSome := by
  cases o <;> cases p <;> first | rfl | exact h.elim
theorem RepK.put {k : Key} {v : V} {d : D} (r : Rep K G v d) {kvs : List (Key × V)} {ds : List (D × D)} (h : RepK K G kvs ds) : RepK K G (putK kvs k v) (dstore ds (dkV k) d) := by
  unfold putK dstore
  rw [valV_any, dfind_any, (h.find (k := k)).some_eq]
  split
  · exact h.repl r
  · exact h.snoc r
theorem RepT.put {k : List Key} {v : V} {d : D} (r : Rep K G v d) {kvs : List (List Key × V)} {ds : List (D × D)} (h : RepT K G kvs ds) : RepT K G (putK kvs k v) (dstore ds (.tup (k.map dkV)) d) := by
  unfold putK dstore
  rw [valV_any, dfind_any, (h.find (k := k)).some_eq]
  split
  · exact h.repl r
  · exact h.snoc r
theorem rep_key {v : V} {k : Key} (h : Rep K G v (dkV k)) : v = kV k := by
  cases k with
  | inl i => cases h; rfl
  | inr x => cases h; rfl
theorem reps_keys : ∀ {vs : List V} {ks : List Key}, Reps K G vs (ks.map dkV) → vs = ks.map kV
  | _, [], .nil => rfl
  | _, k :: r, .cons a b => by rw [rep_key a, reps_keys b]; rfl
theorem rep_keyT {v : V} {ks : List Key} (h : Rep K G v (.tup (ks.map dkV))) : ∃ b, v = .ref b ∧ SqT K.K G b (ks.map kV) := by
  cases h with
  | tup sq r => exact ⟨_, rfl, by rw [← reps_keys r]; exact sq⟩
theorem rep_dk (k : Key) : Rep K G (kV k) (dkV k) := by cases k <;> constructor
end

section
variable {X : Cx} {pins : List (Addr × Obj)} {σ : L2.St} {H : Hp} {s : Shared} {a : Addr} {y v : V} {u r : Value} {o : Option V} {A : Around} {E : Value → Shared → Prop}
theorem key_ofS {b : Addr} {ks : List Key} (I : Inv X pins σ H s) (e : SqT X.K H b (ks.map kV)) : (tupleKind (mixKind X.prog X.w)).is s.heap ks b := by
  obtain ⟨its, r, ⟨o, h1, h2, n, h3⟩, _⟩ := I.tuple e
  exact ⟨o, its.toArray, n, h1, h2, h3, by simpa using items_are r⟩
def DGetS (K : PySem.W.Frag) (H : Hp) (a : Addr) (y : V) (r : Option V) : Prop :=
  (∃ kvs k, Rd H a (.dK kvs) ∧ y = kV k ∧ r = valV kvs k) ∨ ∃ kvs k b, Rd H a (.dT kvs) ∧ y = .ref b ∧ SqT K H b (k.map kV) ∧ r = valV kvs k
theorem DGetS.mono {K : PySem.W.Frag} {H H' : Hp} {a : Addr} {y : V} {r : Option V} (s : Sub H H') (h : DGetS K H a y r) : DGetS K H' a y r := by
  rcases h with ⟨kvs, k, e, ey, l⟩ | ⟨kvs, k, b, e, ey, eb, l⟩
  · exact .inl ⟨kvs, k, s.rd e, ey, l⟩
  · exact .inr ⟨kvs, k, b, s.rd e, ey, s.sqT eb, l⟩
theorem dS_getItem {Q : Value → Shared → Prop} (hu : A.units + 1 < cLine) (I : Inv X pins σ H s) (g : DGetS X.K H a y (some v)) (ry : RelV y u) (h : ∀ w' s', Inv X pins σ H s' → RelV v w' → Q w' s') :
    wpAny (model X.prog X.w) A (getItem (.ref a) u) Q E s := by
  rcases g with ⟨kvs, k, e, ey, l⟩ | ⟨kvs, k, b, e, ey, eb, l⟩
  · exact d_getItem hu I (.inl ⟨kvs, k, e, ey, l⟩) ry h
  · subst ey
    cases (show u = Value.ref b from ry)
    obtain ⟨z, hd, xs, rel, dd⟩ := dt_rd I.hok e
    obtain ⟨w', hw, rw'⟩ := RelO.some_of (v := v) (o := (atKey xs k).map (·.2)) (by rw [l]; exact rel.val k)
    obtain ⟨p, hp, hp2⟩ := Option.map_eq_some_iff.mp hw
    refine wpAny_getItem_heap (tupleKind_room_in1 hu) (key_ofS I eb) dd hp ?_
    rw [hp2]
    exact h w' _ (I.tok _) rw'
theorem dS_in {Q : Value → Shared → Prop} (hu : A.units + 1 < cLine) (I : Inv X pins σ H s) (g : DGetS X.K H a y o) (ry : RelV y u) (h : ∀ s', Inv X pins σ H s' → Q (.bool o.isSome) s') :
    wpAny (model X.prog X.w) A (compareOp .In u (.ref a)) Q E s := by
  rcases g with ⟨kvs, k, e, ey, l⟩ | ⟨kvs, k, b, e, ey, eb, l⟩
  · exact d_in hu I (.inl ⟨kvs, k, e, ey, l⟩) ry h
  · subst ey
    cases (show u = Value.ref b from ry)
    obtain ⟨z, hd, xs, rel, dd⟩ := dt_rd I.hok e
    refine wpAny_in_heap (tupleKind_room_in1 hu) (key_ofS I eb) hd dd ?_
    have q := (rel.val k).isSome_eq
    rw [Option.isSome_map] at q
    rw [← q, ← l]
    exact h _ (I.tok _)
theorem dS_notIn {Q : Value → Shared → Prop} (hu : A.units + 1 < cLine) (I : Inv X pins σ H s) (g : DGetS X.K H a y o) (ry : RelV y u) (h : ∀ s', Inv X pins σ H s' → Q (.bool (!o.isSome)) s') :
    wpAny (model X.prog X.w) A (compareOp .NotIn u (.ref a)) Q E s := by
  rcases g with ⟨kvs, k, e, ey, l⟩ | ⟨kvs, k, b, e, ey, eb, l⟩
  · exact d_notIn hu I (.inl ⟨kvs, k, e, ey, l⟩) ry h
  · subst ey
    cases (show u = Value.ref b from ry)
    obtain ⟨z, hd, xs, rel, dd⟩ := dt_rd I.hok e
    refine wpAny_notIn_heap (tupleKind_room_in1 hu) (key_ofS I eb) hd dd ?_
    have q := (rel.val k).isSome_eq
    rw [Option.isSome_map] at q
    rw [← q, ← l]
    exact h _ (I.tok _)
def rInK (K : PySem.W.Frag) (neg : Bool) : R2 := fun x y H Q => ∃ a o, y = .ref a ∧ DGetS K H a x o ∧ Q (.bl (if neg then !o.isSome else o.isSome)) H
theorem op_inK (hu : X.A.units + 1 < cLine) : OpR X (compareOp .In) (rInK X.K false) := by
  intro pins s σ H x y v u Q I rx ry ⟨a, o, e, g, q⟩
  subst e
  obtain rfl : u = Value.ref a := ry
  exact dS_in hu I g rx fun s' I' => ⟨.bl o.isSome, H, I', rfl, q⟩
theorem op_niK (hu : X.A.units + 1 < cLine) : OpR X (compareOp .NotIn) (rInK X.K true) := by
  intro pins s σ H x y v u Q I rx ry ⟨a, o, e, g, q⟩
  subst e
  obtain rfl : u = Value.ref a := ry
  exact dS_notIn hu I g rx fun s' I' => ⟨.bl (!o.isSome), H, I', rfl, q⟩
def rIxK (K : PySem.W.Frag) : R2 := fun x y H Q => ∃ a v, x = .ref a ∧ DGetS K H a y (some v) ∧ Q v H
theorem dictS_typeIs (I : Inv X pins σ H s) (g : DGetS X.K H a y o) : s.TypeIs (.ref a) "dict" := by
  rcases g with ⟨kvs, k, e, _, _⟩ | ⟨kvs, k, b, e, _, _, _⟩
  · obtain ⟨z, hd, vs, rel, dd⟩ := dk_rd I.hok e
    exact dd.typeIs
  · obtain ⟨z, hd, xs, rel, dd⟩ := dt_rd I.hok e
    exact dd.typeIs
theorem ix_dK (hu : X.A.units + 1 < cLine) : IxR X (rIxK X.K) := by
  intro value slice pins s σ H x y v u Q I rx ry ⟨a, r, e, g, q⟩ hs
  subst e
  obtain rfl : v = Value.ref a := rx
  exact tail_any (dictS_typeIs I g) slot_dict_getitem.lookup (dS_getItem hu I g ry fun w' s' I' r' => ⟨r, H, I', r', q⟩) hs
end
end DL
namespace DL
open PySem PySem.Spec PyProof.Rows L2

mutual
def toPy : D → PyData
  | .non => .none
  | .bl b => .bool b
  | .int i => .int i
  | .str x => .str x
  | .tup ds => .tuple (toPys ds)
  | .lst ds => .list (toPys ds)
  | _ => .dict []
def toPys : List D → List PyData
  | [] => []
  | d :: ds => toPy d :: toPys ds
end
theorem toPys_map : ∀ ds : List D, toPys ds = ds.map toPy
  | [] => rfl
  | d :: ds => by rw [toPys, List.map_cons, toPys_map ds]
mutual
theorem dp_of {K : KC} {G : Hp} : ∀ {v : V} {d : D}, Rep K G v d → (toPy d).canLay0 = true → Dp K.K G v (toPy d)
  | _, _, .non, _ => .non
  | _, _, .bl b, _ => .bl b
  | _, _, .int i, _ => .int i
  | _, _, .str x, _ => .str x
  | _, _, .tup sq r, h => .tup sq (dps_of r (by unfold toPy at h; exact h))
  | _, _, .lst sq r, h => .lst (.of sq) (dps_of r (by unfold toPy at h; exact h))
  | _, _, .ty _, h => by unfold toPy at h; cases h
  | _, _, .cls _, h => by unfold toPy at h; cases h
  | _, _, .scr _, h => by unfold toPy at h; cases h
  | _, _, .dk _ _, h => by unfold toPy at h; cases h
  | _, _, .dt _ _, h => by unfold toPy at h; cases h
  | _, _, .ins _ _ _, h => by unfold toPy at h; cases h
theorem dps_of {K : KC} {G : Hp} : ∀ {vs : List V} {ds : List D}, Reps K G vs ds → PyData.canLayAll0 (toPys ds) = true → DpAll K.K G vs (toPys ds)
  | _, _, .nil, _ => .nil
  | _, _, .cons a b, h => by
    rw [toPys] at h ⊢
    have h' : ((toPy _).canLay0 && PyData.canLayAll0 (toPys _)) = true := h
    obtain ⟨h1, h2⟩ := Bool.and_eq_true_iff.mp h'
    exact .cons (dp_of a h1) (dps_of b h2)
end

def eqD : D → D → Option Bool
  | .int i, .int j => some (decide (i = j))
  | .str i, .str j => some (decide (i = j))
  | .bl i, .bl j => some (decide (i = j))
  | x, y => if SeqAt.shaped (toPy x) = true ∧ SeqAt.shaped (toPy y) = true then some (PyData.eqv (toPy x) (toPy y)) else none
@[simp] theorem eqD_int (i j : Int) : eqD (.int i) (.int j) = some (decide (i = j)) := rfl
@[simp] theorem eqD_str (i j : Str) : eqD (.str i) (.str j) = some (decide (i = j)) := rfl
@[simp] theorem eqD_bl (i j : Bool) : eqD (.bl i) (.bl j) = some (decide (i = j)) := rfl
def opEq (a b : EV) : Rz EV := orStuck (eqD a.d b.d) >>= fun k => .ok (.fz (.bl k))
def opNe (a b : EV) : Rz EV := orStuck (eqD a.d b.d) >>= fun k => .ok (.fz (.bl (!k)))
theorem orStuck_exc {α : Type} {o : Option α} {e : Exn} : orStuck o ≠ .exc e := by cases o <;> simp [orStuck]
theorem noexc_bind {α : Type} {o : Option α} {f : α → Rz EV} (h : ∀ a e, f a ≠ .exc e) (e : Exn) : (orStuck o >>= f) ≠ .exc e := by
  cases o with
  | none => intro z; cases z
  | some a => exact h a e
theorem ne_eq : NoExc opEq := ⟨fun a b e => noexc_bind (fun _ _ z => by cases z) e⟩
theorem ne_ne : NoExc opNe := ⟨fun a b e => noexc_bind (fun _ _ z => by cases z) e⟩
section
variable {X : Cx} {C : CT} {W : WX}
theorem giveB {K : KC} {Z : Ent} {G H : Hp} {Q : VK} {k : Bool} (s : Sub G H) (q : ∀ v G' H', Ext G H G' H' → EVok K Z H G' H' v (.fz (.bl k)) → Q v H') : Q (.bl k) H := q _ G H (.refl s) (.bl k)
theorem giveI {K : KC} {Z : Ent} {G H : Hp} {Q : VK} {k : Int} (s : Sub G H) (q : ∀ v G' H', Ext G H G' H' → EVok K Z H G' H' v (.fz (.int k)) → Q v H') : Q (.int k) H := q _ G H (.refl s) (.int k)
theorem giveS {K : KC} {Z : Ent} {G H : Hp} {Q : VK} {k : Str} (s : Sub G H) (q : ∀ v G' H', Ext G H G' H' → EVok K Z H G' H' v (.fz (.str k)) → Q v H') : Q (.str k) H := q _ G H (.refl s) (.str k)
theorem giveN {K : KC} {Z : Ent} {G H : Hp} {Q : VK} (s : Sub G H) (q : ∀ v G' H', Ext G H G' H' → EVok K Z H G' H' v (.fz .non) → Q v H') : Q .non H := q _ G H (.refl s) .non
theorem giveL {K : KC} {Z : Ent} {G H : Hp} {Q : VK} {vs : List V} {ds : List D} (s : Sub G H) (zh : Sub Z.H H) (r : Reps K G vs ds) (q : ∀ v G' H', Ext G H G' H' → EVok K Z H G' H' v (.ow true (.lst ds)) → Q v H') : ∀ p, H p = none → Q (.ref p) (upd H p (.lst vs)) := fun p hp =>
  q (.ref p) G _ (.lay s hp) ⟨p, rfl, ⟨vs, upd_same, r⟩, s.none hp, zh.none hp, fun _ => hp⟩
theorem giveT {K : KC} {Z : Ent} {G H : Hp} {Q : VK} {vs : List V} {ds : List D} (s : Sub G H) (r : Reps K G vs ds) (q : ∀ v G' H', Ext G H G' H' → EVok K Z H G' H' v (.fz (.tup ds)) → Q v H') : ∀ p, H p = none → Q (.ref p) (upd H p (.tup vs)) := fun p hp =>
  q (.ref p) _ _ (.lay2 s hp) (.tup (.of upd_same) (r.mono (.upd (s.none hp))))
def rEqA (K : PySem.W.Frag) : R2 := fun x y H Q => rEq x y H Q ∨ rEqD K x y H Q
def rNeA (K : PySem.W.Frag) : R2 := fun x y H Q => rNe x y H Q ∨ rNeD K x y H Q
theorem eq_core {K : KC} {H : Hp} {x y : V} {a b : D} {k : Bool} (ra : Rep K H x a) (rb : Rep K H y b) (h : eqD a b = some k) :
    (scal x y = true ∧ k = decide (x = y)) ∨ (∃ d e, Dp K.K H x d ∧ Dp K.K H y e ∧ SeqAt.shaped d = true ∧ SeqAt.shaped e = true ∧ k = PyData.eqv d e) := by
  have deep : (if SeqAt.shaped (toPy a) = true ∧ SeqAt.shaped (toPy b) = true then some (PyData.eqv (toPy a) (toPy b)) else none) = some k → (∃ d e, Dp K.K H x d ∧ Dp K.K H y e ∧ SeqAt.shaped d = true ∧ SeqAt.shaped e = true ∧ k = PyData.eqv d e) := fun h => by
    by_cases z : SeqAt.shaped (toPy a) = true ∧ SeqAt.shaped (toPy b) = true
    · rw [if_pos z] at h
      cases h
      exact ⟨_, _, dp_of ra (SeqAt.canLay_of_shaped z.1), dp_of rb (SeqAt.canLay_of_shaped z.2), z.1, z.2, rfl⟩
    · rw [if_neg z] at h; cases h
  unfold eqD at h
  split at h
  · cases h
    cases ra; cases rb
    exact .inl ⟨rfl, by simp⟩
  · cases h
    cases ra; cases rb
    exact .inl ⟨rfl, by simp⟩
  · cases h
    cases ra; cases rb
    exact .inl ⟨rfl, by simp⟩
  · exact .inr (deep h)
theorem od_eq (hu : X.A.units + 64 < cLine) : OpD X C (compareOp .Eq) opEq := by
  refine ⟨rEqA X.K, OpR.or op_eq (op_eqD hu), fun Z G H Hs x y a b Q s zh va vb q => ?_⟩
  unfold opEq at q
  cases h : eqD a.d b.d with
  | none => rw [h] at q; exact q.elim
  | some k =>
    rw [h] at q
    have q := giveB s q
    rcases eq_core (va.rep s) (vb.rep s) h with ⟨h1, rfl⟩ | ⟨d, e, h1, h2, h3, h4, rfl⟩
    · exact .inl ⟨h1, q⟩
    · exact .inr ⟨d, e, h1, h2, h3, h4, q⟩
theorem od_ne (hu : X.A.units + 64 < cLine) : OpD X C (compareOp .NotEq) opNe := by
  refine ⟨rNeA X.K, OpR.or op_ne (op_neD hu), fun Z G H Hs x y a b Q s zh va vb q => ?_⟩
  unfold opNe at q
  cases h : eqD a.d b.d with
  | none => rw [h] at q; exact q.elim
  | some k =>
    rw [h] at q
    have q := giveB s q
    rcases eq_core (va.rep s) (vb.rep s) h with ⟨h1, rfl⟩ | ⟨d, e, h1, h2, h3, h4, rfl⟩
    · exact .inl ⟨h1, q⟩
    · exact .inr ⟨d, e, h1, h2, h3, h4, q⟩

theorem OpD.of {f : Value → Value → Sem Value} {g : EV → EV → Rz EV} {r : R2} (ho : OpR X f r)
    (h : ∀ (Z : Ent) (G H Hs : Hp) (x y : V) (a b ev : EV) (Q : VK), Sub G H → Sub Z.H H → EVok (kc X C) Z Hs G H x a → EVok (kc X C) Z Hs G H y b → g a b = .ok ev → (∀ v G' H', Ext G H G' H' → EVok (kc X C) Z H G' H' v ev → Q v H') → r x y H Q) : OpD X C f g :=
  ⟨r, ho, fun Z G H Hs x y a b Q s zh va vb q => by
    cases hg : g a b with
    | ok ev => rw [hg] at q; exact h Z G H Hs x y a b ev Q s zh va vb hg q
    | exc e => rw [hg] at q; exact q.elim
    | stuck => rw [hg] at q; exact q.elim⟩
def opI (c : Int → Int → Bool) (g : Int → Int → D) (a b : EV) : Rz EV := match a, b with
  | .fz (.int i), .fz (.int j) => if c i j = true then .ok (.fz (g i j)) else .stuck
  | _, _ => .stuck
@[simp] theorem opI_int (c : Int → Int → Bool) (g : Int → Int → D) (i j : Int) : opI c g (.fz (.int i)) (.fz (.int j)) = if c i j = true then .ok (.fz (g i j)) else .stuck := rfl
theorem opI_inv {c : Int → Int → Bool} {g : Int → Int → D} {a b : EV} {P : Rz EV → Prop} (hs : ¬ P .stuck) (h : P (opI c g a b)) : ∃ i j, a = .fz (.int i) ∧ b = .fz (.int j) ∧ c i j = true ∧ P (.ok (.fz (g i j))) := by
  unfold opI at h
  split at h
  · rename_i i j
    by_cases z : c i j = true
    · rw [if_pos z] at h; exact ⟨i, j, rfl, rfl, z, h⟩
    · rw [if_neg z] at h; exact absurd h hs
  · exact absurd h hs
theorem ne_opI {c : Int → Int → Bool} {g : Int → Int → D} : NoExc (opI c g) := ⟨fun a b e h => by
  obtain ⟨_, _, _, _, _, z⟩ := opI_inv (P := fun r => r = .exc e) (by intro z; cases z) h
  cases z⟩
theorem od_I {f : Value → Value → Sem Value} {c : Int → Int → Bool} {CC : Int → Int → Prop} {g : Int → Int → Int} (ho : OpR X f (rI CC fun i j => .int (g i j))) (hc : ∀ i j, c i j = true → CC i j) : OpD X C f (opI c fun i j => .int (g i j)) :=
  ⟨_, ho, fun Z G H Hs x y a b Q s zh va vb q => by
    obtain ⟨i, j, rfl, rfl, h, q⟩ := opI_inv (P := fun r => match r with
      | .ok ev => ∀ v G' H', Ext G H G' H' → EVok (kc X C) Z H G' H' v ev → Q v H'
      | _ => False) (fun z => z) q
    exact ⟨i, j, rep_int va, rep_int vb, hc i j h, giveI s q⟩⟩
theorem od_I0 {f : Value → Value → Sem Value} {g : Int → Int → Int} (ho : OpR X f (rI0 fun i j => .int (g i j))) : OpD X C f (opI (fun _ _ => true) fun i j => .int (g i j)) :=
  ⟨_, ho, fun Z G H Hs x y a b Q s zh va vb q => by
    obtain ⟨i, j, rfl, rfl, h, q⟩ := opI_inv (P := fun r => match r with
      | .ok ev => ∀ v G' H', Ext G H G' H' → EVok (kc X C) Z H G' H' v ev → Q v H'
      | _ => False) (fun z => z) q
    exact ⟨i, j, rep_int va, rep_int vb, giveI s q⟩⟩
abbrev opSub : EV → EV → Rz EV := opI (fun _ _ => true) fun i j => .int (i - j)
abbrev opMul : EV → EV → Rz EV := opI (fun i j => decide (i.natAbs < 18446744073709551616) || decide (j.natAbs < 18446744073709551616)) fun i j => .int (i * j)
abbrev opDiv : EV → EV → Rz EV := opI (fun _ j => decide (0 < j) && decide (j < 1073741824)) fun i j => .int (i / j)
abbrev opMod : EV → EV → Rz EV := opI (fun _ j => decide (0 < j)) fun i j => .int (i % j)
abbrev opPow : EV → EV → Rz EV := opI (fun i j => decide (0 ≤ j) && decide (j ≤ 1000000) && decide (i.natAbs < 2 ^ 64)) fun i j => .int (i ^ j.toNat)
theorem od_sub : OpD X C (binaryOp .Sub) opSub := od_I0 op_sub
theorem od_mul : OpD X C (binaryOp .Mult) opMul := od_I op_mul fun i j h => by
  simp only [Bool.or_eq_true, decide_eq_true_eq] at h
  unfold CMul
  rw [p64]
  omega
theorem od_div : OpD X C (binaryOp .FloorDiv) opDiv := od_I op_fdiv fun i j h => by
  simp only [Bool.and_eq_true, decide_eq_true_eq] at h; exact h
theorem od_mod : OpD X C (binaryOp .Mod) opMod := od_I op_mod fun i j h => by
  simp only [decide_eq_true_eq] at h; exact h
theorem od_pow : OpD X C (binaryOp .Pow) opPow := od_I op_pow fun i j h => by
  simp only [Bool.and_eq_true, decide_eq_true_eq] at h; exact ⟨h.1.1, h.1.2, h.2⟩
def strLt (a b : Str) : Bool := decide (a.cps.toList < b.cps.toList)
def isNone? : PyData → Bool
  | .none => true
  | _ => false
def ltDat (a b : D) : Option Bool := if PySem.W.alike (toPy a) (toPy b) = true ∧ isNone? (toPy a) = false ∧ (toPy a).canLay0 = true ∧ (toPy b).canLay0 = true ∧ (toPy a).depth ≤ 60 then some (PySem.W.dataLt (toPy a) (toPy b)) else none
def noDat (_ _ : D) : Option Bool := none
theorem op_ltDat (hu : X.A.units + 64 < cLine) : OpR X (compareOp .Lt) (fun x y H Q => ∃ d e, Dp X.K H x d ∧ Dp X.K H y e ∧ PySem.W.alike d e = true ∧ d ≠ .none ∧ d.depth ≤ 60 ∧ Q (.bl (PySem.W.dataLt d e)) H) := by
  intro pins s σ H x y v u Q I rx ry ⟨d, e, hd, he, al, hn, hz, q⟩
  obtain ⟨as, r1⟩ := Dp.reads I d x v hd rx
  obtain ⟨bs, r2⟩ := Dp.reads I e y u he ry
  exact PySem.W.rcLt_alike d e X.A s v u as bs r1 r2 al hn (by omega) X.prog X.w X.xe _ ⟨.bl _, H, I, rfl, q⟩
def opO (p : Int → Int → Bool) (r : Str → Str → Bool) (f : D → D → Option Bool) (a b : EV) : Rz EV := match a, b with
  | .fz (.int i), .fz (.int j) => .ok (.fz (.bl (p i j)))
  | .fz (.str i), .fz (.str j) => .ok (.fz (.bl (r i j)))
  | a, b => orStuck (f a.d b.d) >>= fun k => .ok (.fz (.bl k))
@[simp] theorem opO_int (p : Int → Int → Bool) (r : Str → Str → Bool) (f : D → D → Option Bool) (i j : Int) : opO p r f (.fz (.int i)) (.fz (.int j)) = .ok (.fz (.bl (p i j))) := rfl
@[simp] theorem opO_str (p : Int → Int → Bool) (r : Str → Str → Bool) (f : D → D → Option Bool) (i j : Str) : opO p r f (.fz (.str i)) (.fz (.str j)) = .ok (.fz (.bl (r i j))) := rfl
theorem ne_opO {p : Int → Int → Bool} {r : Str → Str → Bool} {f : D → D → Option Bool} : NoExc (opO p r f) := ⟨fun a b e h => by
  unfold opO at h
  split at h
  · cases h
  · cases h
  · exact noexc_bind (fun _ _ z => by cases z) e h⟩
theorem od_O {f : Value → Value → Sem Value} {p : Int → Int → Bool} {r : Str → Str → Bool} {g : D → D → Option Bool} {r2 : R2} (h1 : OpR X f (rI0 fun i j => .bl (p i j))) (h2 : OpR X f (fun x y H Q => ∃ i j, x = .str i ∧ y = .str j ∧ Q (.bl (r i j)) H)) (h3 : OpR X f r2)
    (h4 : ∀ (H : Hp) (x y : V) (a b : D) (k : Bool) (Q : VK), Rep (kc X C) H x a → Rep (kc X C) H y b → g a b = some k → Q (.bl k) H → r2 x y H Q) : OpD X C f (opO p r g) :=
  .of (OpR.or h1 (OpR.or h2 h3)) fun Z G H Hs x y a b ev Q s zh va vb hg q => by
    unfold opO at hg
    split at hg
    · cases hg; exact .inl ⟨_, _, rep_int va, rep_int vb, giveB s q⟩
    · cases hg; exact .inr (.inl ⟨_, _, rep_str va, rep_str vb, giveB s q⟩)
    · cases hk : g a.d b.d with
      | none => rw [hk] at hg; cases hg
      | some k =>
        rw [hk] at hg
        cases hg
        exact .inr (.inr (h4 H x y _ _ k Q (va.rep s) (vb.rep s) hk (giveB s q)))
theorem od_O2 {f : Value → Value → Sem Value} {p : Int → Int → Bool} {r : Str → Str → Bool} (h1 : OpR X f (rI0 fun i j => .bl (p i j))) (h2 : OpR X f (fun x y H Q => ∃ i j, x = .str i ∧ y = .str j ∧ Q (.bl (r i j)) H)) : OpD X C f (opO p r noDat) :=
  od_O h1 h2 h1 fun H x y a b k Q ra rb h q => by cases h
abbrev opLt : EV → EV → Rz EV := opO (fun i j => decide (i < j)) strLt ltDat
abbrev opLe : EV → EV → Rz EV := opO (fun i j => decide (i ≤ j)) (fun i j => !strLt j i) noDat
abbrev opGt : EV → EV → Rz EV := opO (fun i j => decide (j < i)) (fun i j => strLt j i) noDat
abbrev opGe : EV → EV → Rz EV := opO (fun i j => decide (j ≤ i)) (fun i j => !strLt i j) noDat
theorem od_lt (hu : X.A.units + 64 < cLine) : OpD X C (compareOp .Lt) opLt := od_O op_lt op_lt_str (op_ltDat hu) fun H x y a b k Q ra rb h q => by
  unfold ltDat at h
  split at h
  · rename_i z
    cases h
    exact ⟨_, _, dp_of ra z.2.2.1, dp_of rb z.2.2.2.1, z.1, (fun e => by rw [e] at z; exact absurd z.2.1 (by decide)), z.2.2.2.2, q⟩
  · cases h
theorem od_le : OpD X C (compareOp .LtE) opLe := od_O2 op_le op_le_str
theorem od_gt : OpD X C (compareOp .Gt) opGt := od_O2 op_gt op_gt_str
theorem od_ge : OpD X C (compareOp .GtE) opGe := od_O2 op_ge op_ge_str
def lstOf : EV → Option (List D)
  | .fz (.lst ds) => some ds
  | .ow _ (.lst ds) => some ds
  | _ => none
@[simp] theorem lstOf_fz (ds : List D) : lstOf (.fz (.lst ds)) = some ds := rfl
@[simp] theorem lstOf_ow (n : Bool) (ds : List D) : lstOf (.ow n (.lst ds)) = some ds := rfl
theorem lstOf_ok {K : KC} {Z : Ent} {Hs G H : Hp} {v : V} {ev : EV} {ds : List D} (s : Sub G H) (h : lstOf ev = some ds) (k : EVok K Z Hs G H v ev) : ∃ p vs, v = .ref p ∧ H p = some (.lst vs) ∧ Reps K G vs ds := by
  unfold lstOf at h
  split at h
  · cases h
    cases k with
    | lst e r => exact ⟨_, _, rfl, s _ _ e, r⟩
  · cases h
    obtain ⟨p, rfl, ⟨vs, e, r⟩, _⟩ := k
    exact ⟨p, vs, rfl, e, r⟩
  · cases h
def opAdd (a b : EV) : Rz EV := match a, b with
  | .fz (.int i), .fz (.int j) => .ok (.fz (.int (i + j)))
  | .fz (.str i), .fz (.str j) => if i.length + j.length ≤ sizeLine then .ok (.fz (.str (i ++ j))) else .stuck
  | .fz (.tup i), .fz (.tup j) => if i.length + j.length ≤ sizeLine then .ok (.fz (.tup (i ++ j))) else .stuck
  | a, b => match lstOf a, lstOf b with
    | some i, some j => if i.length + j.length ≤ sizeLine then .ok (.ow true (.lst (i ++ j))) else .stuck
    | _, _ => .stuck
@[simp] theorem opAdd_int (i j : Int) : opAdd (.fz (.int i)) (.fz (.int j)) = .ok (.fz (.int (i + j))) := rfl
@[simp] theorem opAdd_str (i j : Str) : opAdd (.fz (.str i)) (.fz (.str j)) = if i.length + j.length ≤ sizeLine then .ok (.fz (.str (i ++ j))) else .stuck := rfl
@[simp] theorem opAdd_tup (i j : List D) : opAdd (.fz (.tup i)) (.fz (.tup j)) = if i.length + j.length ≤ sizeLine then .ok (.fz (.tup (i ++ j))) else .stuck := rfl
@[simp] theorem opAdd_ff (i j : List D) : opAdd (.fz (.lst i)) (.fz (.lst j)) = if i.length + j.length ≤ sizeLine then .ok (.ow true (.lst (i ++ j))) else .stuck := rfl
@[simp] theorem opAdd_fo (n : Bool) (i j : List D) : opAdd (.fz (.lst i)) (.ow n (.lst j)) = if i.length + j.length ≤ sizeLine then .ok (.ow true (.lst (i ++ j))) else .stuck := rfl
@[simp] theorem opAdd_of (n : Bool) (i j : List D) : opAdd (.ow n (.lst i)) (.fz (.lst j)) = if i.length + j.length ≤ sizeLine then .ok (.ow true (.lst (i ++ j))) else .stuck := rfl
@[simp] theorem opAdd_oo (n m : Bool) (i j : List D) : opAdd (.ow n (.lst i)) (.ow m (.lst j)) = if i.length + j.length ≤ sizeLine then .ok (.ow true (.lst (i ++ j))) else .stuck := rfl
theorem ne_add : NoExc opAdd := ⟨fun a b e h => by
  unfold opAdd at h
  split at h
  · cases h
  · split at h <;> cases h
  · split at h <;> cases h
  · split at h
    · split at h <;> cases h
    · cases h⟩
theorem od_add : OpD X C (binaryOp .Add) opAdd :=
  .of (OpR.or op_add (OpR.or op_add_str (OpR.or op_catA op_cat))) fun Z G H Hs x y a b ev Q s zh va vb hg q => by
    unfold opAdd at hg
    split at hg
    · cases hg; exact .inl ⟨_, _, rep_int va, rep_int vb, giveI s q⟩
    · split at hg
      · rename_i hz
        cases hg
        exact .inr (.inl ⟨_, _, rep_str va, rep_str vb, hz, giveS s q⟩)
      · cases hg
    · rename_i i j
      split at hg
      · rename_i hz
        cases hg
        refine .inr (.inr (.inl ?_))
        have va' : Rep (kc X C) G x (.tup i) := va
        have vb' : Rep (kc X C) G y (.tup j) := vb
        cases va' with
        | @tup p us _ sq r =>
          cases vb' with
          | @tup p' us' _ sq' r' =>
            refine ⟨p, p', us, us', rfl, rfl, s.sqT sq, s.sqT sq', by rw [r.length, r'.length]; exact hz, fun e => ?_, fun _ e => ?_, fun _ _ => giveT s (r.append r') q⟩
            · subst e
              cases r
              exact q _ G H (.refl s) (.tup sq' r')
            · subst e
              cases r'
              rw [List.append_nil] at q
              exact q _ G H (.refl s) (.tup sq r)
      · cases hg
    · split at hg
      · rename_i i j hi hj
        split at hg
        · rename_i hz
          cases hg
          obtain ⟨p, us, rfl, e, r⟩ := lstOf_ok s hi va
          obtain ⟨p', us', rfl, e', r'⟩ := lstOf_ok s hj vb
          exact .inr (.inr (.inr ⟨p, p', us, us', rfl, rfl, e, e', by rw [r.length, r'.length]; exact hz, giveL s zh (r.append r') q⟩))
        · cases hg
      · cases hg

def flatD : D → Bool
  | .int _ | .str _ | .non => true
  | _ => false
def eqF : D → D → Bool
  | .int i, .int j => decide (i = j)
  | .str i, .str j => decide (i = j)
  | .non, .non => true
  | _, _ => false
theorem flat_of {K : KC} {G : Hp} {v : V} {d : D} (r : Rep K G v d) (h : flatD d = true) : flatV v = true := by
  cases r <;> first | rfl | (cases h)
theorem flats_of {K : KC} {G : Hp} : ∀ {vs : List V} {ds : List D}, Reps K G vs ds → ds.all flatD = true → vs.all flatV = true
  | _, _, .nil, _ => rfl
  | _, _, .cons a b, h => by
    rw [List.all_cons, Bool.and_eq_true] at h ⊢
    exact ⟨flat_of a h.1, flats_of b h.2⟩
theorem eqF_of {K : KC} {G : Hp} {v u : V} {d e : D} (r : Rep K G v d) (r' : Rep K G u e) (h : flatD d = true) (h' : flatD e = true) : eqV v u = eqF d e := by
  cases r <;> first | (cases h; done) | skip
  all_goals (cases r' <;> first | (cases h'; done) | rfl | simp [eqV, eqF])
theorem inF_of {K : KC} {G : Hp} {v : V} {d : D} (r : Rep K G v d) (h : flatD d = true) : ∀ {vs : List V} {ds : List D}, Reps K G vs ds → ds.all flatD = true → inV v vs = ds.any fun e => eqF e d
  | _, _, .nil, _ => rfl
  | _, _, .cons a b, k => by
    rw [List.all_cons, Bool.and_eq_true] at k
    show (eqV _ v || inV v _) = _
    rw [List.any_cons, eqF_of a r k.1 h, inF_of r h b k.2]
def inDs (x : D) (ds : List D) (isList : Bool) : Option Bool :=
  if flatD x = true ∧ ds.all flatD = true then some (ds.any fun e => eqF e x)
  else if isList = true ∧ SeqAt.shaped (toPy x) = true ∧ SeqAt.shaped (.list (toPys ds)) = true then some ((toPys ds).any fun e => PyData.eqv e (toPy x)) else none
def sign? (y : Str) : Option Nat := match y.cps.toList with
  | [c] => some c
  | _ => none
theorem sign_of {y : Str} {c : Nat} (h : sign? y = some c) : y = ⟨#[c]⟩ := by
  unfold sign? at h
  split at h
  · rename_i c2 e
    injection h with h
    subst h
    cases y with
    | mk a =>
      have : a = #[c2] := by
        apply Array.toList_inj.mp
        exact e
      rw [this]
  · cases h
@[simp] theorem sign?_one (c : Nat) : sign? ⟨#[c]⟩ = some c := rfl
def inD (a b : EV) : Option Bool := match b.d with
  | .lst ds => inDs a.d ds true
  | .tup ds => inDs a.d ds false
  | .str z => match a.d with
    | .str y => (sign? y).map fun c => decide (c ∈ z.cps.toList)
    | _ => none
  | .dct t _ kvs => if isKeyD t a.d = true then some (dfind kvs a.d).isSome else none
  | _ => none
def opIn (a b : EV) : Rz EV := orStuck (inD a b) >>= fun k => .ok (.fz (.bl k))
def opNi (a b : EV) : Rz EV := orStuck (inD a b) >>= fun k => .ok (.fz (.bl (!k)))
theorem ne_in : NoExc opIn := ⟨fun a b e => noexc_bind (fun _ _ z => by cases z) e⟩
theorem ne_ni : NoExc opNi := ⟨fun a b e => noexc_bind (fun _ _ z => by cases z) e⟩
end
end DL
namespace DL
open PySem PySem.Spec PyProof.Rows L2
section
variable {X : Cx} {C : CT} {W : WX}
theorem canLayAll_map {ds : List D} (h : SeqAt.shaped (.list (toPys ds)) = true) : PyData.canLayAll0 (toPys ds) = true := SeqAt.canLay_of_shaped h
def rInA (K : PySem.W.Frag) (neg : Bool) : R2 := fun x y H Q => ∃ k, Q (.bl (if neg then !k else k)) H ∧
  ((∃ p xs, y = .ref p ∧ (SqL K H p xs ∨ SqT K H p xs) ∧ flatV x = true ∧ xs.all flatV = true ∧ k = inV x xs) ∨
   (∃ d ds, Dp K H x d ∧ Dp K H y (.list ds) ∧ SeqAt.shaped d = true ∧ SeqAt.shaped (.list ds) = true ∧ k = ds.any fun z => PyData.eqv z d) ∨
   (∃ (c : Nat) (z : Str), x = .str ⟨#[c]⟩ ∧ y = .str z ∧ k = decide (c ∈ z.cps.toList)) ∨
   ∃ p o, y = .ref p ∧ DGetS K H p x o ∧ k = o.isSome)
theorem op_inA (hu : X.A.units + 65 < cLine) : OpR X (compareOp .In) (rInA X.K false) := by
  intro pins s σ H x y v u Q I rx ry ⟨k, q, h⟩
  rcases h with ⟨p, xs, h1, h2, h3, h4, rfl⟩ | ⟨d, ds, h1, h2, h3, h4, rfl⟩ | ⟨c, z, h1, h2, rfl⟩ | ⟨p, o, h1, h2, rfl⟩
  · exact op_in_seq pins s σ H x y v u Q I rx ry ⟨p, xs, h1, h2, h3, h4, q⟩
  · exact op_inD hu pins s σ H x y v u Q I rx ry ⟨d, ds, h1, h2, h3, h4, q⟩
  · exact op_in_sign pins s σ H x y v u Q I rx ry ⟨c, z, h1, h2, q⟩
  · exact op_inK (by omega) pins s σ H x y v u Q I rx ry ⟨p, o, h1, h2, q⟩
theorem op_niA (hu : X.A.units + 65 < cLine) : OpR X (compareOp .NotIn) (rInA X.K true) := by
  intro pins s σ H x y v u Q I rx ry ⟨k, q, h⟩
  rcases h with ⟨p, xs, h1, h2, h3, h4, rfl⟩ | ⟨d, ds, h1, h2, h3, h4, rfl⟩ | ⟨c, z, h1, h2, rfl⟩ | ⟨p, o, h1, h2, rfl⟩
  · exact op_notIn_seq pins s σ H x y v u Q I rx ry ⟨p, xs, h1, h2, h3, h4, q⟩
  · exact op_notInD hu pins s σ H x y v u Q I rx ry ⟨d, ds, h1, h2, h3, h4, q⟩
  · exact op_notIn_sign pins s σ H x y v u Q I rx ry ⟨c, z, h1, h2, q⟩
  · exact op_niK (by omega) pins s σ H x y v u Q I rx ry ⟨p, o, h1, h2, q⟩
theorem dget_of {K : KC} {H : Hp} {y x : V} {t l : Bool} {kvs : List (D × D)} {a : D} (rb : Rep K H y (.dct t l kvs)) (ra : Rep K H x a) (h : isKeyD t a = true) : ∃ p o, y = .ref p ∧ DGetS K.K H p x o ∧ RelD K H o (dfind kvs a) := by
  cases rb with
  | dk rd r =>
    obtain ⟨k, hk⟩ := Option.isSome_iff_exists.mp (show (key? a).isSome = true from h)
    have e := key?_ok hk
    subst e
    exact ⟨_, _, rfl, .inl ⟨_, k, rd.rd, rep_key ra, rfl⟩, r.find⟩
  | dt rd r =>
    obtain ⟨k, hk⟩ := Option.isSome_iff_exists.mp (show (keyT? a).isSome = true from h)
    have e := keyT?_ok hk
    subst e
    obtain ⟨b, e, sq⟩ := rep_keyT ra
    exact ⟨_, _, rfl, .inr ⟨_, k, b, rd.rd, e, sq, rfl⟩, r.find⟩
theorem in_core {K : KC} {H : Hp} {x y : V} {a b : EV} {k : Bool} (ra : Rep K H x a.d) (rb : Rep K H y b.d) (h : inD a b = some k) :
    (∃ p xs, y = .ref p ∧ (SqL K.K H p xs ∨ SqT K.K H p xs) ∧ flatV x = true ∧ xs.all flatV = true ∧ k = inV x xs) ∨
    (∃ d ds, Dp K.K H x d ∧ Dp K.K H y (.list ds) ∧ SeqAt.shaped d = true ∧ SeqAt.shaped (.list ds) = true ∧ k = ds.any fun z => PyData.eqv z d) ∨
    (∃ (c : Nat) (z : Str), x = .str ⟨#[c]⟩ ∧ y = .str z ∧ k = decide (c ∈ z.cps.toList)) ∨
    ∃ p o, y = .ref p ∧ DGetS K.K H p x o ∧ k = o.isSome := by
  unfold inD at h
  cases hb : b.d with
  | lst ds =>
    rw [hb] at h rb
    cases rb with
    | @lst p us _ e r =>
      dsimp only at h
      unfold inDs at h
      split at h
      · rename_i z
        cases h
        exact .inl ⟨p, us, rfl, .inl (.of e), flat_of ra z.1, flats_of r z.2, (inF_of ra z.1 r z.2).symm⟩
      · split at h
        · rename_i z
          cases h
          exact .inr (.inl ⟨_, _, dp_of ra (SeqAt.canLay_of_shaped z.2.1), .lst (.of e) (dps_of r (canLayAll_map z.2.2)), z.2.1, z.2.2, rfl⟩)
        · cases h
  | tup ds =>
    rw [hb] at h rb
    cases rb with
    | @tup p us _ e r =>
      dsimp only at h
      unfold inDs at h
      split at h
      · rename_i z
        cases h
        exact .inl ⟨p, us, rfl, .inr e, flat_of ra z.1, flats_of r z.2, (inF_of ra z.1 r z.2).symm⟩
      · split at h
        · rename_i z
          exact absurd z.1 (by simp)
        · cases h
  | str z =>
    rw [hb] at h rb
    dsimp only at h
    split at h
    · rename_i y hc
      cases hy : sign? y with
      | none => rw [hy] at h; cases h
      | some c =>
        rw [hy] at h
        cases h
        rw [hc, sign_of hy] at ra
        exact .inr (.inr (.inl ⟨c, z, rep_str ra, rep_str rb, rfl⟩))
    · cases h
  | non => rw [hb] at h; cases h
  | bl _ => rw [hb] at h; cases h
  | int _ => rw [hb] at h; cases h
  | scr _ => rw [hb] at h; cases h
  | dct t l kvs =>
    rw [hb] at h rb
    dsimp only at h
    split at h
    · rename_i z
      cases h
      obtain ⟨p, o, e, g, r⟩ := dget_of rb ra z
      exact .inr (.inr (.inr ⟨p, o, e, g, r.some_eq.symm⟩))
    · cases h
  | ins _ _ => rw [hb] at h; cases h
  | cls _ => rw [hb] at h; cases h
  | ty _ => rw [hb] at h; cases h
theorem od_in (hu : X.A.units + 65 < cLine) : OpD X C (compareOp .In) opIn :=
  .of (op_inA hu) fun Z G H Hs x y a b ev Q s zh va vb hg q => by
    unfold opIn at hg
    cases h : inD a b with
    | none => rw [h] at hg; cases hg
    | some k =>
      rw [h] at hg
      cases hg
      exact ⟨k, giveB s q, in_core (va.rep s) (vb.rep s) h⟩
theorem od_ni (hu : X.A.units + 65 < cLine) : OpD X C (compareOp .NotIn) opNi :=
  .of (op_niA hu) fun Z G H Hs x y a b ev Q s zh va vb hg q => by
    unfold opNi at hg
    cases h : inD a b with
    | none => rw [h] at hg; cases hg
    | some k =>
      rw [h] at hg
      cases hg
      exact ⟨k, giveB s q, in_core (va.rep s) (vb.rep s) h⟩
def isNon : D → Bool
  | .non => true
  | _ => false
def opIs (a b : EV) : Rz EV := match b with
  | .fz .non => .ok (.fz (.bl (isNon a.d)))
  | _ => .stuck
def opIsn (a b : EV) : Rz EV := match b with
  | .fz .non => .ok (.fz (.bl (!isNon a.d)))
  | _ => .stuck
theorem ne_is : NoExc opIs := ⟨fun a b e h => by unfold opIs at h; split at h <;> cases h⟩
theorem ne_isn : NoExc opIsn := ⟨fun a b e h => by unfold opIsn at h; split at h <;> cases h⟩
theorem non_core {K : KC} {H : Hp} {x : V} {d : D} (r : Rep K H x d) : decide (x = .non) = isNon d := by cases r <;> first | rfl | simp
theorem od_is : OpD X C (compareOp .Is) opIs :=
  .of op_isN fun Z G H Hs x y a b ev Q s zh va vb hg q => by
    unfold opIs at hg
    split at hg
    · cases hg
      refine ⟨rep_non vb, ?_⟩
      rw [non_core (va.rep s)]
      exact giveB s q
    · cases hg
theorem od_isn : OpD X C (compareOp .IsNot) opIsn :=
  .of op_notN fun Z G H Hs x y a b ev Q s zh va vb hg q => by
    unfold opIsn at hg
    split at hg
    · cases hg
      refine ⟨rep_non vb, ?_⟩
      rw [non_core (va.rep s)]
      exact giveB s q
    · cases hg

def atD (xs : List D) (i : Int) : Option D := atI xs i
def ixD (a b : EV) : Option D := match b with
  | .fz (.int i) => (match a with
    | .fz (.lst ds) => atI ds i
    | .ow _ (.lst ds) => atI ds i
    | .fz (.tup ds) => atI ds i
    | .fz (.scr ns) => (atI ns i).map .int
    | .fz (.str z) => if z.length ≤ sizeLine then (atI z.cps.toList i).map fun c => .str ⟨#[c]⟩ else none
    | _ => none)
  | _ => none
def opIxK (a b : EV) : Rz EV := match a.d with
  | .dct t _ kvs => if isKeyD t b.d = true then orStuck (dfind kvs b.d) >>= fun d => .ok (.fz d) else .stuck
  | _ => .stuck
def opIx (a b : EV) : Rz EV := orStuck (ixD a b) >>= fun d => .ok (.fz d)
theorem ne_ix : NoExc opIx := ⟨fun a b e => noexc_bind (fun _ _ z => by cases z) e⟩
theorem atI_reps {K : KC} {G : Hp} {vs : List V} {ds : List D} {i : Int} {d : D} (r : Reps K G vs ds) (h : atI ds i = some d) : ∃ v, atI vs i = some v ∧ Rep K G v d := by
  unfold atI at h ⊢
  rw [r.length]
  cases q : ixN ds.length i with
  | none => rw [q] at h; cases h
  | some j =>
    rw [q] at h
    obtain ⟨v, h1, h2⟩ := r.get (i := j) h
    exact ⟨v, h1, h2⟩
theorem atI_map {α β : Type} (f : α → β) (xs : List α) (i : Int) : atI (xs.map f) i = (atI xs i).map f := by
  unfold atI
  rw [List.length_map]
  cases ixN xs.length i with
  | none => rfl
  | some j => simp
theorem de_ix {a b : Expr} {ma mb : Env → Rz EV} {pos : Pos} (ha : DE X C W a ma) (hb : DE X C W b mb) (hs : PlainIx b := by exact fun _ _ => rfl) : DE X C W (.Subscript a b pos) (m2 ma mb opIx) :=
  ⟨PE.imp (pe_ix ix_seq ha.pe hb.pe hs) fun σ H Q h => two_go (r := rIx X.K) (fun Z G H Hs x y a b Q s zh va vb q => by
    unfold opIx at q
    cases hg : ixD a b with
    | none => rw [hg] at q; exact q.elim
    | some d =>
      rw [hg] at q
      replace q : ∀ v G' H', Ext G H G' H' → Rep (kc X C) G' v d → Q v H' := fun v G' H' x r => q v G' H' x r
      unfold ixD at hg
      split at hg
      · rename_i i
        have hy : y = .int i := rep_int vb
        split at hg
        · rename_i ds
          have va' : Rep (kc X C) G x (.lst ds) := va
          cases va' with
          | @lst p us _ e r =>
            obtain ⟨v, h1, h2⟩ := atI_reps r hg
            exact .inl ⟨p, us, i, v, rfl, hy, .of (s _ _ e), h1, q v G H (.refl s) h2⟩
        · obtain ⟨p, e, ⟨us, e', r⟩, _⟩ := va
          obtain ⟨v, h1, h2⟩ := atI_reps r hg
          exact .inl ⟨p, us, i, v, e, hy, .of e', h1, q v G H (.refl s) h2⟩
        · rename_i ds
          have va' : Rep (kc X C) G x (.tup ds) := va
          cases va' with
          | @tup p us _ e r =>
            obtain ⟨v, h1, h2⟩ := atI_reps r hg
            exact .inr (.inl ⟨p, us, i, v, rfl, hy, s.sqT e, h1, q v G H (.refl s) h2⟩)
        · rename_i ns
          have va' : Rep (kc X C) G x (.scr ns) := va
          cases va' with
          | @scr p _ e =>
            cases hn : atI ns i with
            | none => rw [hn] at hg; cases hg
            | some n =>
              rw [hn] at hg
              cases hg
              exact .inl ⟨p, _, i, .int n, rfl, hy, s.sqL e, by rw [atI_map, hn]; rfl, q _ G H (.refl s) (.int n)⟩
        · rename_i z
          split at hg
          · rename_i hz
            cases hn : atI z.cps.toList i with
            | none => rw [hn] at hg; cases hg
            | some n =>
              rw [hn] at hg
              cases hg
              exact .inr (.inr ⟨z, i, n, rep_str va, hy, hz, hn, q _ G H (.refl s) (.str _)⟩)
          · cases hg
        · cases hg
      · cases hg) ne_ix.no h⟩

theorem opIxK_inv {a b : EV} {P : Rz EV → Prop} (hs : ¬ P .stuck) (h : P (opIxK a b)) : ∃ t l kvs d, a.d = .dct t l kvs ∧ isKeyD t b.d = true ∧ dfind kvs b.d = some d ∧ P (.ok (.fz d)) := by
  unfold opIxK at h
  split at h
  · rename_i t l kvs ha
    split at h
    · rename_i hk
      cases hd : dfind kvs b.d with
      | none => rw [hd] at h; exact absurd h hs
      | some d => rw [hd] at h; exact ⟨t, l, kvs, d, ha, hk, hd, h⟩
    · exact absurd h hs
  · exact absurd h hs
theorem ne_ixK : NoExc opIxK := ⟨fun a b e h => by
  obtain ⟨_, _, _, _, _, _, _, z⟩ := opIxK_inv (P := fun r => r = .exc e) (by intro z; cases z) h
  cases z⟩
theorem de_ixK {a b : Expr} {ma mb : Env → Rz EV} {pos : Pos} (hu : X.A.units + 1 < cLine) (ha : DE X C W a ma) (hb : DE X C W b mb) (hs : PlainIx b := by exact fun _ _ => rfl) : DE X C W (.Subscript a b pos) (m2 ma mb opIxK) :=
  ⟨PE.imp (pe_ix (ix_dK hu) ha.pe hb.pe hs) fun σ H Q h => two_go (r := rIxK X.K) (fun Z G H Hs x y a b Q s zh va vb q => by
    obtain ⟨t, l, kvs, d, ha, hk, hd, q⟩ := opIxK_inv (P := fun r => match r with
        | .ok ev => ∀ v G' H', Ext G H G' H' → EVok (kc X C) Z H G' H' v ev → Q v H'
        | _ => False) (fun z => z) q
    have qq : ∀ v G' H', Ext G H G' H' → Rep (kc X C) G' v d → Q v H' := fun v G' H' x r => q v G' H' x r
    -- read in the whole heap only the address; the value by what the frozen part says
    cases a with
    | fz da =>
      have hda : da = .dct t l kvs := ha
      subst hda
      cases b with
      | fz db =>
        obtain ⟨p, o, e, g, r⟩ := dget_of (K := kc X C) va vb hk
        rw [show dfind kvs db = some d from hd] at r
        cases o with
        | none => exact r.elim
        | some v => exact ⟨p, v, e, g.mono s, qq v G H (.refl s) r⟩
      | ow n w => cases w <;> cases t <;> cases hk
    | ow n w =>
      cases w with
      | dct t' kvs' =>
        have hda : D.dct t' false kvs' = .dct t l kvs := ha
        cases hda
        obtain ⟨p, e, wo, _⟩ := va
        cases b with
        | fz db =>
          cases t with
          | false =>
            obtain ⟨k, hkk⟩ := Option.isSome_iff_exists.mp (show (key? db).isSome = true from hk)
            have ek := key?_ok hkk
            subst ek
            obtain ⟨us, e', r⟩ := wo
            have f := r.find (k := k)
            rw [show dfind kvs (dkV k) = some d from hd] at f
            cases hv : valV us k with
            | none => rw [hv] at f; exact f.elim
            | some v => rw [hv] at f; exact ⟨p, v, e, .inl ⟨us, k, .of e', rep_key vb, hv.symm⟩, qq v G H (.refl s) f⟩
          | true =>
            obtain ⟨k, hkk⟩ := Option.isSome_iff_exists.mp (show (keyT? db).isSome = true from hk)
            have ek := keyT?_ok hkk
            subst ek
            obtain ⟨us, e', r⟩ := wo
            have f := r.find (k := k)
            rw [show dfind kvs (.tup (k.map dkV)) = some d from hd] at f
            obtain ⟨b', eb, sq⟩ := rep_keyT (K := kc X C) vb
            cases hv : valV us k with
            | none => rw [hv] at f; exact f.elim
            | some v => rw [hv] at f; exact ⟨p, v, e, .inr ⟨us, k, b', .of e', eb, s.sqT sq, hv.symm⟩, qq v G H (.refl s) f⟩
        | ow n w => cases w <;> cases t <;> cases hk
      | lst _ => cases ha
      | ins _ _ => cases ha
      | self _ _ => cases ha
    ) (fun a b e => ne_ixK.no a b e) h⟩
def CallD (X : Cx) (C : CT) (f : Value) (g : List EV → Rz EV) : Prop :=
  ∃ r : List V → Hp → VK → Prop, CallR X f r ∧ ∀ (Z : Ent) (G H Hs : Hp) (vs : List V) (evs : List EV) (ev : EV) (Q : VK), Sub G H → Sub Z.H H → EVs (kc X C) Z Hs G H vs evs → g evs = .ok ev →
    (∀ v G' H', Ext G H G' H' → EVok (kc X C) Z H G' H' v ev → Q v H') → r vs H Q
def mCall (a : Env → Rz (List EV)) (g : List EV → Rz EV) : Env → Rz EV := fun env => a env >>= fun xs => g xs
structure NoExcL (g : List EV → Rz EV) : Prop where
  no : ∀ a e, g a ≠ .exc e
theorem callD_go {r : List V → Hp → VK → Prop} {m : Env → Rz (List EV)} {g : List EV → Rz EV} {σ : L2.St} {H : Hp} {Q : VK} (ng : NoExcL g) (hr : ∀ (Z : Ent) (G H Hs : Hp) (vs : List V) (evs : List EV) (ev : EV) (Q : VK), Sub G H → Sub Z.H H → EVs (kc X C) Z Hs G H vs evs → g evs = .ok ev →
    (∀ v G' H', Ext G H G' H' → EVok (kc X C) Z H G' H' v ev → Q v H') → r vs H Q) (h : tE (kc X C) W (mCall m g) σ H Q) : tCB r (tA (kc X C) W m) σ H Q :=
  tA_seq (f := fun xs _ => g xs) h fun Z G1 H1 env vs a er va hs q => by
    cases hg : g a with
    | ok ev => rw [hg] at q; exact hr Z G1 H1 H vs a ev Q er.sub er.zh va hg q
    | exc e => exact absurd hg (ng.no a e)
    | stuck => rw [hg] at q; exact q.elim
theorem de_callB {x : Str} {id : String} {p pos : Pos} {e : Expr} {es : List Expr} {m : Env → Rz (List EV)} {g : List EV → Rz EV} (hc : CallD X C (.builtin id) g) (ng : NoExcL g) (hm : X.mg x = none) (hv : bootBuiltins x = some (.builtin id)) (ha : DA X C W (e :: es) m) (hg : Gl X x := by rfl) (hn : x ≠ "__name__" := by decide) (hdb : (x == ("__debug__" : Str)) = false := by decide)
    (he : starEach (e :: es) X.env = (false, eval e X.env) :: starEach es X.env := by rfl) (hpl : (backTo pos (starEach es X.env)).any (·.1) = false := by rfl) : DE X C W (.Call (.Name x p) (e :: es) [] pos) (mCall m g) := by
  obtain ⟨r, h1, h2⟩ := hc
  exact ⟨PE.imp (pe_callB h1 hg hm hv ha.pa hn hdb he hpl) fun σ H Q h => callD_go ng h2 h⟩
theorem de_callTy {x : Str} {T : String} {p pos : Pos} {e : Expr} {es : List Expr} {m : Env → Rz (List EV)} {g : List EV → Rz EV} (hc : CallD X C (.type T) g) (ng : NoExcL g) (hm : X.mg x = none) (hv : bootBuiltins x = some (.type T)) (ha : DA X C W (e :: es) m) (hg : Gl X x := by rfl) (hn : x ≠ "__name__" := by decide) (hdb : (x == ("__debug__" : Str)) = false := by decide)
    (he : starEach (e :: es) X.env = (false, eval e X.env) :: starEach es X.env := by rfl) (hpl : (backTo pos (starEach es X.env)).any (·.1) = false := by rfl) : DE X C W (.Call (.Name x p) (e :: es) [] pos) (mCall m g) := by
  obtain ⟨r, h1, h2⟩ := hc
  exact ⟨PE.imp (pe_callTy h1 hg hm hv ha.pa hn hdb he hpl) fun σ H Q h => callD_go ng h2 h⟩
def g1 (f : D → Option D) : List EV → Rz EV
  | [a] => orStuck (f a.d) >>= fun d => .ok (.fz d)
  | _ => .stuck
@[simp] theorem g1_one (f : D → Option D) (a : EV) : g1 f [a] = orStuck (f a.d) >>= fun d => .ok (.fz d) := rfl
theorem ne_g1 {f : D → Option D} : NoExcL (g1 f) := ⟨fun a e h => by
  unfold g1 at h
  split at h
  · exact noexc_bind (fun _ _ z => by cases z) e h
  · cases h⟩
theorem cd_g1 {fv : Value} {f : D → Option D} {r : List V → Hp → VK → Prop} (hr : CallR X fv r) (h : ∀ (H : Hp) (x : V) (a d : D) (Q : VK), Rep (kc X C) H x a → f a = some d → (∀ v G, Rep (kc X C) G v d → Q v H) → r [x] H Q) (hs : ∀ a d, f a = some d → (∃ i, d = .int i) ∨ (∃ i, d = .bl i) ∨ (∃ i, d = .str i)) : CallD X C fv (g1 f) :=
  ⟨r, hr, fun Z G H Hs vs evs ev Q s zh va hg q => by
    unfold g1 at hg
    split at hg
    · rename_i a
      obtain ⟨v, rfl, k⟩ := evs1 va
      cases hf : f a.d with
      | none => rw [hf] at hg; cases hg
      | some d =>
        rw [hf] at hg
        cases hg
        refine h H v a.d d Q (k.rep s) hf fun u G' ru => ?_
        have ru' : Rep (kc X C) G u d := by
          rcases hs _ _ hf with ⟨i, rfl⟩ | ⟨i, rfl⟩ | ⟨i, rfl⟩
          · rw [rep_int ru]; exact .int i
          · rw [rep_bl ru]; exact .bl i
          · rw [rep_str ru]; exact .str i
        exact q u G H (.refl s) ru'
    · cases hg⟩
def lenD : D → Option D
  | .lst ds => some (.int ds.length)
  | .tup ds => some (.int ds.length)
  | .scr ns => some (.int ns.length)
  | .str z => if z.length ≤ sizeLine then some (.int z.length) else none
  | _ => none
abbrev gLen := g1 lenD
theorem cd_len : CallD X C (.builtin "len") gLen := cd_g1 call_len (fun H x a d Q r h q => by
    unfold lenD at h
    split at h
    · cases h
      cases r with
      | @lst p us ds e r => exact ⟨_, us.length, rfl, .inl ⟨us, .of e, rfl⟩, by rw [r.length]; exact q _ H (.int _)⟩
    · cases h
      cases r with
      | @tup p us ds e r => exact ⟨_, us.length, rfl, .inr ⟨us, e, rfl⟩, by rw [r.length]; exact q _ H (.int _)⟩
    · cases h
      cases r with
      | @scr p ns e => exact ⟨_, _, rfl, .inl ⟨_, e, rfl⟩, by rw [List.length_map]; exact q _ H (.int _)⟩
    · rename_i z
      split at h
      · rename_i hz
        cases h
        cases r
        exact ⟨_, z.length, rfl, ⟨hz, rfl⟩, q _ H (.int _)⟩
      · cases h
    · cases h) fun a d h => by
  unfold lenD at h
  split at h <;> first | (cases h; exact .inl ⟨_, rfl⟩) | skip
  · split at h
    · cases h; exact .inl ⟨_, rfl⟩
    · cases h
  · cases h
def absD : D → Option D
  | .int i => some (.int (if i < 0 then -i else i))
  | _ => none
abbrev gAbs := g1 absD
theorem cd_abs : CallD X C (.builtin "abs") gAbs := cd_g1 call_abs (fun H x a d Q r h q => by
    unfold absD at h
    split at h
    · cases h
      cases r
      exact ⟨_, rfl, q _ H (.int _)⟩
    · cases h) fun a d h => by
  unfold absD at h
  split at h
  · cases h; exact .inl ⟨_, rfl⟩
  · cases h
def intD : D → Option D
  | .int i => some (.int i)
  | .bl b => some (.int (if b then 1 else 0))
  | _ => none
abbrev gInt := g1 intD
theorem cd_int : CallD X C (.type "int") gInt := cd_g1 call_int1 (fun H x a d Q r h q => by
    unfold intD at h
    split at h
    · cases h
      cases r
      exact .inl ⟨_, rfl, q _ H (.int _)⟩
    · cases h
      cases r
      exact .inr ⟨_, rfl, q _ H (.int _)⟩
    · cases h) fun a d h => by
  unfold intD at h
  split at h
  · cases h; exact .inl ⟨_, rfl⟩
  · cases h; exact .inl ⟨_, rfl⟩
  · cases h
def gMM (f : Int → Int → Int) : List EV → Rz EV
  | [.fz (.int i), .fz (.int j)] => .ok (.fz (.int (f i j)))
  | _ => .stuck
@[simp] theorem gMM_two (f : Int → Int → Int) (i j : Int) : gMM f [.fz (.int i), .fz (.int j)] = .ok (.fz (.int (f i j))) := rfl
theorem ne_gMM {f : Int → Int → Int} : NoExcL (gMM f) := ⟨fun a e h => by unfold gMM at h; split at h <;> cases h⟩
abbrev gMax := gMM fun i j => if j > i then j else i
abbrev gMin := gMM fun i j => if j < i then j else i
theorem cd_max (hc : X.calm = true) : CallD X C (.builtin "max") gMax := ⟨_, call_max2 hc, fun Z G H Hs vs evs ev Q s zh va hg q => by
  unfold gMax gMM at hg
  split at hg
  · cases hg
    obtain ⟨v, u, rfl, k, l⟩ := evs2 va
    exact ⟨_, _, by rw [rep_int k, rep_int l], giveI s q⟩
  · cases hg⟩
theorem cd_min (hc : X.calm = true) : CallD X C (.builtin "min") gMin := ⟨_, call_min2 hc, fun Z G H Hs vs evs ev Q s zh va hg q => by
  unfold gMin gMM at hg
  split at hg
  · cases hg
    obtain ⟨v, u, rfl, k, l⟩ := evs2 va
    exact ⟨_, _, by rw [rep_int k, rep_int l], giveI s q⟩
  · cases hg⟩
def bls : List D → Option (List Bool)
  | [] => some []
  | .bl b :: r => (bls r).map (b :: ·)
  | _ :: _ => none
theorem bls_ok : ∀ {ds : List D} {bs : List Bool}, bls ds = some bs → ds = bs.map D.bl
  | [], _, h => by cases h; rfl
  | .bl b :: r, bs, h => by
    have h' : (bls r).map (b :: ·) = some bs := h
    cases q : bls r with
    | none => rw [q] at h'; cases h'
    | some cs => rw [q] at h'; cases h'; rw [bls_ok q]; rfl
  | .non :: _, _, h | .int _ :: _, _, h | .str _ :: _, _, h | .tup _ :: _, _, h | .lst _ :: _, _, h | .scr _ :: _, _, h | .dct _ _ _ :: _, _, h | .ins _ _ :: _, _, h | .cls _ :: _, _, h | .ty _ :: _, _, h => by cases h
@[simp] theorem bls_map : ∀ bs : List Bool, bls (bs.map D.bl) = some bs
  | [] => rfl
  | b :: r => by show (bls (r.map D.bl)).map (b :: ·) = _; rw [bls_map r]; rfl
def allD (f : List Bool → Bool) : D → Option D
  | .lst ds => (bls ds).map fun bs => .bl (f bs)
  | _ => none
abbrev gAll := g1 (allD fun bs => bs.all id)
abbrev gAny := g1 (allD fun bs => bs.any id)
theorem allD_inv {f : List Bool → Bool} {a d : D} (h : allD f a = some d) : ∃ bs : List Bool, a = .lst (bs.map D.bl) ∧ d = .bl (f bs) := by
  unfold allD at h
  split at h
  · rename_i ds
    cases q : bls ds with
    | none => rw [q] at h; cases h
    | some bs => rw [q] at h; cases h; exact ⟨bs, by rw [bls_ok q], rfl⟩
  · cases h
theorem cd_all (hc : X.calm = true) : CallD X C (.builtin "all") gAll := cd_g1 (cr_all hc) (fun H x a d Q r h q => by
    obtain ⟨bs, rfl, rfl⟩ := allD_inv h
    cases r with
    | @lst p us ds e r => rw [Reps.of_bls r] at e; exact ⟨p, bs, rfl, .of e, q _ H (.bl _)⟩) fun a d h => by
  obtain ⟨bs, rfl, rfl⟩ := allD_inv h
  exact .inr (.inl ⟨_, rfl⟩)
theorem cd_any (hc : X.calm = true) : CallD X C (.builtin "any") gAny := cd_g1 (cr_any hc) (fun H x a d Q r h q => by
    obtain ⟨bs, rfl, rfl⟩ := allD_inv h
    cases r with
    | @lst p us ds e r => rw [Reps.of_bls r] at e; exact ⟨p, bs, rfl, .of e, q _ H (.bl _)⟩) fun a d h => by
  obtain ⟨bs, rfl, rfl⟩ := allD_inv h
  exact .inr (.inl ⟨_, rfl⟩)

def strsD : List D → Option (List Str)
  | [] => some []
  | .str b :: r => (strsD r).map (b :: ·)
  | _ :: _ => none
theorem strsD_ok : ∀ {ds : List D} {bs : List Str}, strsD ds = some bs → ds = bs.map D.str
  | [], _, h => by cases h; rfl
  | .str b :: r, bs, h => by
    have h' : (strsD r).map (b :: ·) = some bs := h
    cases q : strsD r with
    | none => rw [q] at h'; cases h'
    | some cs => rw [q] at h'; cases h'; rw [strsD_ok q]; rfl
  | .non :: _, _, h | .int _ :: _, _, h | .bl _ :: _, _, h | .tup _ :: _, _, h | .lst _ :: _, _, h | .scr _ :: _, _, h | .dct _ _ _ :: _, _, h | .ins _ _ :: _, _, h | .cls _ :: _, _, h | .ty _ :: _, _, h => by cases h
@[simp] theorem strsD_map : ∀ bs : List Str, strsD (bs.map D.str) = some bs
  | [] => rfl
  | b :: r => by show (strsD (r.map D.str)).map (b :: ·) = _; rw [strsD_map r]; rfl
def joinD (s : Str) (xs : List D) : Rz EV := orStuck (strsD xs) >>= fun ys => if (ys.map (·.length)).sum + ys.length * s.length ≤ 16777216 then .ok (.fz (.str (Txt.join s ys))) else .stuck
theorem joinD_inv {s : Str} {xs : List D} {ev : EV} (h : joinD s xs = .ok ev) : ∃ ys : List Str, xs = ys.map D.str ∧ (ys.map (·.length)).sum + ys.length * s.length ≤ 16777216 ∧ ev = .fz (.str (Txt.join s ys)) := by
  unfold joinD at h
  cases q : strsD xs with
  | none => rw [q] at h; cases h
  | some ys =>
    rw [q] at h
    simp only [orStuck_some, Rz.ok_bind] at h
    split at h
    · rename_i hz; cases h; exact ⟨ys, strsD_ok q, hz, rfl⟩
    · cases h
theorem joinD_exc {s : Str} {xs : List D} {e : Exn} : joinD s xs ≠ .exc e := noexc_bind (fun ys e => by split <;> (intro z; cases z)) e
def isS : EV → Rz Str
  | .fz (.str s) => .ok s
  | _ => .stuck
@[simp] theorem isS_str (s : Str) : isS (.fz (.str s)) = .ok s := rfl
def mM1 (ma mb : Env → Rz EV) (g : Str → EV → Rz EV) : Env → Rz EV := fun env => ma env >>= fun a => isS a >>= fun s => mb env >>= fun b => g s b
def mM0 (ma : Env → Rz EV) (g : Str → Rz EV) : Env → Rz EV := fun env => ma env >>= fun a => isS a >>= fun s => g s
def M1D (X : Cx) (C : CT) (r : V → List V → Hp → VK → Prop) (g : Str → EV → Rz EV) : Prop :=
  (∀ s b e, g s b ≠ .exc e) ∧ ∀ (Z : Ent) (G H Hs : Hp) (s : Str) (y : V) (b ev : EV) (Q : VK), Sub G H → Sub Z.H H → EVok (kc X C) Z Hs G H y b → g s b = .ok ev → (∀ v G' H', Ext G H G' H' → EVok (kc X C) Z H G' H' v ev → Q v H') → r (.str s) [y] H Q
theorem m1_go {ma mb : Env → Rz EV} {g : Str → EV → Rz EV} {r : V → List V → Hp → VK → Prop} {σ : L2.St} {H : Hp} {Q : VK} (hr : M1D X C r g)
    (h : tE (kc X C) W (mM1 ma mb g) σ H Q) : tM1 r (tE (kc X C) W ma) (tE (kc X C) W mb) σ H Q := by
  obtain ⟨ng, hr⟩ := hr
  obtain ⟨Z, G, env, er, q⟩ := h
  unfold mM1 at q
  refine ⟨Z, G, env, er, ?_⟩
  cases ha : ma env with
  | stuck => rw [ha] at q; exact q.elim
  | exc e => rw [ha] at q; exact q
  | ok a =>
    rw [ha] at q
    simp only [Rz.ok_bind] at q
    intro x G1 H1 x1 va
    cases hs : isS a with
    | stuck => rw [hs] at q; exact q.elim
    | exc e => unfold isS at hs; split at hs <;> cases hs
    | ok s =>
      have hsa : a = .fz (.str s) := by
        unfold isS at hs
        split at hs
        · cases hs; rfl
        · cases hs
      subst hsa
      have hx : x = .str s := rep_str va
      subst hx
      rw [hs] at q
      simp only [Rz.ok_bind] at q
      refine ⟨⟨s, rfl⟩, Z, G1, env, er.ext x1, ?_⟩
      cases hb : mb env with
      | stuck => rw [hb] at q; exact q.elim
      | exc e => rw [hb] at q; exact fun cls d G' H' x2 => q cls d G' H' (x1.trans x2)
      | ok b =>
        rw [hb] at q
        simp only [Rz.ok_bind] at q
        intro y G2 H2 x2 vb
        cases hg : g s b with
        | stuck => rw [hg] at q; exact q.elim
        | exc e => exact absurd hg (ng s b e)
        | ok ev =>
          rw [hg] at q
          exact hr Z G2 H2 H1 s y b ev Q x2.s (er.zh.trans (x1.h.trans x2.h)) vb hg fun v G' H' x3 ve => q v G' H' ((x1.trans x2).trans x3) (ve.start (x1.h.trans x2.h))
def M0D (X : Cx) (C : CT) (r : V → List V → Hp → VK → Prop) (g : Str → Rz EV) : Prop :=
  (∀ s e, g s ≠ .exc e) ∧ ∀ (Z : Ent) (G H : Hp) (s : Str) (ev : EV) (Q : VK), Sub G H → Sub Z.H H → g s = .ok ev → (∀ v G' H', Ext G H G' H' → EVok (kc X C) Z H G' H' v ev → Q v H') → r (.str s) [] H Q
theorem m0_go {ma : Env → Rz EV} {g : Str → Rz EV} {r : V → List V → Hp → VK → Prop} {σ : L2.St} {H : Hp} {Q : VK} (hr : M0D X C r g)
    (h : tE (kc X C) W (mM0 ma g) σ H Q) : tM0 r (tE (kc X C) W ma) σ H Q := by
  obtain ⟨ng, hr⟩ := hr
  obtain ⟨Z, G, env, er, q⟩ := h
  unfold mM0 at q
  refine ⟨Z, G, env, er, ?_⟩
  cases ha : ma env with
  | stuck => rw [ha] at q; exact q.elim
  | exc e => rw [ha] at q; exact q
  | ok a =>
    rw [ha] at q
    simp only [Rz.ok_bind] at q
    intro x G1 H1 x1 va
    cases hs : isS a with
    | stuck => rw [hs] at q; exact q.elim
    | exc e => unfold isS at hs; split at hs <;> cases hs
    | ok s =>
      have hsa : a = .fz (.str s) := by
        unfold isS at hs
        split at hs
        · cases hs; rfl
        · cases hs
      subst hsa
      have hx : x = .str s := rep_str va
      subst hx
      rw [hs] at q
      simp only [Rz.ok_bind] at q
      refine ⟨⟨s, rfl⟩, ?_⟩
      cases hg : g s with
      | stuck => rw [hg] at q; exact q.elim
      | exc e => exact absurd hg (ng s e)
      | ok ev =>
        rw [hg] at q
        exact hr Z G1 H1 s ev Q x1.s (er.zh.trans x1.h) hg fun v G' H' x3 ve => q v G' H' (x1.trans x3) (ve.start x1.h)
def gJoin (s : Str) (b : EV) : Rz EV := match b.d with
  | .lst xs => joinD s xs
  | .tup xs => joinD s xs
  | _ => .stuck
theorem md_join : M1D X C (fun x xs H Q => ∃ a p, ∃ ys : List Str, x = .str a ∧ xs = [.ref p] ∧ (SqL X.K H p (ys.map V.str) ∨ SqT X.K H p (ys.map V.str)) ∧ (ys.map (·.length)).sum + ys.length * a.length ≤ 16777216 ∧ Q (.str (Txt.join a ys)) H) gJoin :=
  ⟨fun s b e h => by
    unfold gJoin at h
    split at h
    · exact joinD_exc h
    · exact joinD_exc h
    · (cases h), fun Z G H Hs s y b ev Q sb zh vb hg q => by
    have rb := vb.rep sb
    unfold gJoin at hg
    split at hg
    · rename_i xs hb
      obtain ⟨ys, rfl, hz, rfl⟩ := joinD_inv hg
      rw [hb] at rb
      cases rb with
      | @lst p us _ e r => rw [Reps.of_strs r] at e; exact ⟨s, p, ys, rfl, rfl, .inl (.of e), hz, giveS sb q⟩
    · rename_i xs hb
      obtain ⟨ys, rfl, hz, rfl⟩ := joinD_inv hg
      rw [hb] at rb
      cases rb with
      | @tup p us _ e r => rw [Reps.of_strs r] at e; exact ⟨s, p, ys, rfl, rfl, .inr e, hz, giveS sb q⟩
    · cases hg⟩
theorem de_join {o e : Expr} {ma mb : Env → Rz EV} {apos pos : Pos} (ho : DE X C W o ma) (he : DE X C W e mb) (hs : starEach [e] X.env = [(false, eval e X.env)] := by rfl) (hbase : attributeBase o "join" X.env (eval o X.env) = eval o X.env := by rfl) (hline : (apos.endLine == pos.line) = true := by rfl) :
    DE X C W (.Call (.Attribute o "join" apos) [e] [] pos) (mM1 ma mb gJoin) := ⟨PE.imp (pe_join ho.pe he.pe hs hbase hline) fun σ H Q h => m1_go md_join h⟩
def newStrs (ys : List Str) : EV := .ow true (.lst (ys.map .str))
def gSplit (s : Str) (b : EV) : Rz EV := match b with
  | .fz (.str z) => if (z.length == 0) = false ∧ s.length + 2 ≤ sizeLine then .ok (newStrs (Txt.split s z)) else .stuck
  | _ => .stuck
@[simp] theorem gSplit_str (s z : Str) : gSplit s (.fz (.str z)) = if (z.length == 0) = false ∧ s.length + 2 ≤ sizeLine then .ok (newStrs (Txt.split s z)) else .stuck := rfl
theorem md_split : M1D X C (fun x xs H Q => ∃ a b, x = .str a ∧ xs = [.str b] ∧ (b.length == 0) = false ∧ a.length + 2 ≤ sizeLine ∧ rNewStrs (Txt.split a b) H Q) gSplit :=
  ⟨fun s b e h => by
    unfold gSplit at h
    split at h
    · split at h <;> (cases h)
    · (cases h), fun Z G H Hs s y b ev Q sb zh vb hg q => by
    unfold gSplit at hg
    split at hg
    · split at hg
      · rename_i hz
        cases hg
        refine ⟨s, _, rfl, by rw [rep_str vb], hz.1, hz.2, ?_⟩
        exact giveL sb zh (Reps.strs _) q
      · cases hg
    · cases hg⟩
theorem de_split {o e : Expr} {ma mb : Env → Rz EV} {apos pos : Pos} (ho : DE X C W o ma) (he : DE X C W e mb) (hs : starEach [e] X.env = [(false, eval e X.env)] := by rfl) (hbase : attributeBase o "split" X.env (eval o X.env) = eval o X.env := by rfl) (hline : (apos.endLine == pos.line) = true := by rfl) :
    DE X C W (.Call (.Attribute o "split" apos) [e] [] pos) (mM1 ma mb gSplit) := ⟨PE.imp (pe_split ho.pe he.pe hs hbase hline) fun σ H Q h => m1_go md_split h⟩

def cutD (xs : List D) (lo hi : Option Int) : List D := (xs.drop (HT.sIx xs.length 0 lo)).take (HT.sIx xs.length xs.length hi - HT.sIx xs.length 0 lo)
theorem cut_reps {K : KC} {G : Hp} {vs : List V} {ds : List D} {lo hi : Option Int} (r : Reps K G vs ds) : Reps K G (cutV vs lo hi) (cutD ds lo hi) := by
  unfold cutV cutD
  rw [r.length]
  exact (r.drop _).take _
def mPart (m : Option (Env → Rz EV)) : Env → Rz (Option Int) := fun env => match m with
  | none => .ok none
  | some m => m env >>= fun a => match a with
    | .fz (.int i) => .ok (some i)
    | _ => .stuck
def gSl (a : EV) (lo hi : Option Int) : Rz EV := match a with
  | .fz (.lst ds) => .ok (.ow true (.lst (cutD ds lo hi)))
  | .ow _ (.lst ds) => .ok (.ow true (.lst (cutD ds lo hi)))
  | .fz (.tup ds) => .ok (.fz (.tup (cutD ds lo hi)))
  | .fz (.str z) => if z.length ≤ sizeLine then .ok (.fz (.str (cutS z lo hi))) else .stuck
  | _ => .stuck
def mSl (m : Env → Rz EV) (lo hi : Option (Env → Rz EV)) : Env → Rz EV := fun env => m env >>= fun a => mPart lo env >>= fun l => mPart hi env >>= fun h => gSl a l h
def tO (K : KC) (W : WX) (m : Env → Rz (Option Int)) : TO := fun σ H Q => ∃ Z G env, ER K Z G H σ env ∧ match m env with
  | .ok o => ∀ G' H', Ext G H G' H' → Q o H'
  | .exc e => ∀ cls d G' H', Ext G H G' H' → ExcOk K G' H' cls d e → W cls d σ H'
  | .stuck => False
structure DO (X : Cx) (C : CT) (W : WX) (e : Option Expr) (m : Option (Env → Rz EV)) : Prop where
  po : PO X e (tO (kc X C) W (mPart m))
theorem PO.imp {e : Option Expr} {t t' : TO} (h : PO X e t) (k : ∀ σ H Q, t' σ H Q → t σ H Q) : PO X e t' := ⟨fun pins s σ H Q I q => h.run pins s σ H Q I (k _ _ _ q)⟩
theorem do_none : DO X C W none none := ⟨PO.imp po_none fun σ H Q ⟨Z, G, env, er, q⟩ => q G H (.refl er.sub)⟩
theorem do_some {e : Expr} {m : Env → Rz EV} (h : DE X C W e m) : DO X C W (some e) (some m) := ⟨PO.imp (po_some h.pe) fun σ H Q ⟨Z, G, env, er, q⟩ => by
  unfold mPart at q
  dsimp only at q
  refine ⟨Z, G, env, er, ?_⟩
  cases ha : m env with
  | stuck => rw [ha] at q; exact q.elim
  | exc e => rw [ha] at q; exact q
  | ok a =>
    rw [ha] at q
    simp only [Rz.ok_bind] at q
    intro v G1 H1 x1 va
    cases a with
    | ow n w => exact q.elim
    | fz d =>
      cases d with
      | int i => exact ⟨i, rep_int va, q G1 H1 x1⟩
      | _ => exact q.elim⟩
def rSlX (K : PySem.W.Frag) : V → Option Int → Option Int → Hp → VK → Prop := fun x lo hi H Q => rSlL K x lo hi H Q ∨ rSlA K x lo hi H Q ∨ (∃ z, x = .str z ∧ z.length ≤ sizeLine ∧ Q (.str (cutS z lo hi)) H)
theorem sl_any (hs : SlR X (fun x lo hi H Q => ∃ z, x = .str z ∧ z.length ≤ sizeLine ∧ Q (.str (cutS z lo hi)) H)) : SlR X (rSlX X.K) := SlR.or sl_list (SlR.or sl_tupA hs)
theorem mPart_go {m : Option (Env → Rz EV)} {f : Option Int → Env → Rz EV} {Z : Ent} {G H : Hp} {σ : L2.St} {env : Env} {R : Option Int → Hp → Prop} {Q : VK} (er : ER (kc X C) Z G H σ env)
    (q : match (mPart m env >>= fun l => f l env) with
      | .ok ev => ∀ v G' H', Ext G H G' H' → EVok (kc X C) Z H G' H' v ev → Q v H'
      | .exc e => ∀ cls d G' H', Ext G H G' H' → ExcOk (kc X C) G' H' cls d e → W cls d σ H'
      | .stuck => False)
    (hR : ∀ l G1 H1, Ext G H G1 H1 → ER (kc X C) Z G1 H1 σ env → (match f l env with
      | .ok ev => ∀ v G' H', Ext G1 H1 G' H' → EVok (kc X C) Z H1 G' H' v ev → Q v H'
      | .exc e => ∀ cls d G' H', Ext G1 H1 G' H' → ExcOk (kc X C) G' H' cls d e → W cls d σ H'
      | .stuck => False) → R l H1) : tO (kc X C) W (mPart m) σ H R := by
  refine ⟨Z, G, env, er, ?_⟩
  cases ha : mPart m env with
  | stuck => rw [ha] at q; exact q.elim
  | exc e => rw [ha] at q; exact q
  | ok l =>
    rw [ha] at q
    simp only [Rz.ok_bind] at q
    refine fun G1 H1 x1 => hR l G1 H1 x1 (er.ext x1) ?_
    cases hb : f l env with
    | stuck => rw [hb] at q; exact q.elim
    | exc e => rw [hb] at q; exact fun cls d G' H' x2 => q cls d G' H' (x1.trans x2)
    | ok b => rw [hb] at q; exact fun v G' H' x2 vb => q v G' H' (x1.trans x2) (vb.start x1.h)
theorem gSl_exc {a : EV} {l h : Option Int} {e : Exn} : gSl a l h ≠ .exc e := by
  unfold gSl
  split <;> first | (intro z; cases z) | (split <;> (intro z; cases z))
theorem cut_whole {ds : List D} {lo hi : Option Int} (h : HT.sIx ds.length 0 lo = 0 ∧ HT.sIx ds.length ds.length hi = ds.length) : cutD ds lo hi = ds := by
  unfold cutD
  rw [h.1, h.2]
  simp
theorem de_sl {e : Expr} {lo hi : Option Expr} {m : Env → Rz EV} {ml mh : Option (Env → Rz EV)} {p2 pos : Pos} (h : DE X C W e m) (hl : DO X C W lo ml) (hh : DO X C W hi mh) :
    DE X C W (.Subscript e (.Slice lo hi none p2) pos) (mSl m ml mh) :=
  ⟨PE.imp (pe_slice (sl_any sl_str) h.pe hl.po hh.po) fun σ H Q ⟨Z, G, env, er, q⟩ => by
    unfold mSl at q
    refine ⟨Z, G, env, er, ?_⟩
    cases ha : m env with
    | stuck => rw [ha] at q; exact q.elim
    | exc e => rw [ha] at q; exact q
    | ok a =>
      rw [ha] at q
      simp only [Rz.ok_bind] at q
      intro v G1 H1 x1 va
      have er1 := er.ext x1
      have q1 : match (mPart ml env >>= fun l => (fun l env => mPart mh env >>= fun h => gSl a l h) l env) with
        | .ok ev => ∀ v G' H', Ext G1 H1 G' H' → EVok (kc X C) Z H1 G' H' v ev → Q v H'
        | .exc e => ∀ cls d G' H', Ext G1 H1 G' H' → ExcOk (kc X C) G' H' cls d e → W cls d σ H'
        | .stuck => False := by
        cases hz : (mPart ml env >>= fun l => mPart mh env >>= fun h => gSl a l h) with
        | stuck => rw [hz] at q; exact q.elim
        | exc e => rw [hz] at q; exact fun cls d G' H' x2 => q cls d G' H' (x1.trans x2)
        | ok b => rw [hz] at q; exact fun v G' H' x2 vb => q v G' H' (x1.trans x2) (vb.start x1.h)
      refine mPart_go (f := fun l env => mPart mh env >>= fun h => gSl a l h) (Q := Q) er1 q1 fun l G2 H2 x2 er2 q2 => ?_
      refine mPart_go (f := fun h _ => gSl a l h) (Q := Q) er2 q2 fun h G3 H3 x3 er3 q3 => ?_
      have va3 := va.ext (x2.trans x3)
      have s3 := er3.sub
      cases hg : gSl a l h with
      | stuck => rw [hg] at q3; exact q3.elim
      | exc e => exact absurd hg gSl_exc
      | ok ev =>
        rw [hg] at q3
        dsimp only at q3
        unfold gSl at hg
        split at hg
        · rename_i ds
          cases hg
          have va' : Rep (kc X C) G3 v (.lst ds) := va3
          cases va' with
          | @lst p us _ e r => exact .inl ⟨p, us, rfl, .of (s3 _ _ e), giveL s3 er3.zh (cut_reps r) q3⟩
        · cases hg
          obtain ⟨p, e, ⟨us, e', r⟩, _⟩ := va3
          exact .inl ⟨p, us, e, .of e', giveL s3 er3.zh (cut_reps r) q3⟩
        · rename_i ds
          cases hg
          have va' : Rep (kc X C) G3 v (.tup ds) := va3
          cases va' with
          | @tup p us _ e r =>
            refine .inr (.inl ⟨p, us, rfl, s3.sqT e, fun hw => ?_, fun _ => giveT s3 (cut_reps r) q3⟩)
            rw [r.length] at hw
            rw [cut_whole hw] at q3
            exact q3 _ G3 H3 (.refl s3) (.tup e r)
        · rename_i z
          split at hg
          · rename_i hz
            cases hg
            exact .inr (.inr ⟨z, rep_str va3, hz, giveS s3 q3⟩)
          · cases hg
        · cases hg⟩

def mApp (i : Nat) (m : Env → Rz EV) : Env → Out := fun env => match env.getD i .no with
  | .own (.lst ds) => (match m env with
    | .ok a => (match a.fr with
      | .fz d => if ds.length < sizeLine then .nx (env.set i (.own (.lst (ds ++ [d])))) else .stuck
      | _ => .stuck)
    | .exc e => .exc e env
    | .stuck => .stuck)
  | _ => .stuck
theorem tyV_list {K : PySem.W.Frag} {H : Hp} {p : Addr} {vs : List V} (h : H p = some (.lst vs)) : tyV K "list" (.ref p) H := Or.inl ⟨rfl, _, Or.inl (Or.inl h)⟩
theorem ds_app (i : Nat) {x : Str} {e : Expr} {m : Env → Rz EV} {xp apos cpos pos : Pos} (he : DE X C W e m) (hN : X.N[i]? = some x := by rfl) (hv : Vis X.env.scope x := by first | exact Or.inl rfl | exact Or.inr (Or.inl rfl) | exact Or.inr (Or.inr rfl)) (hd : (x == ("__debug__" : Str)) = false := by decide)
    (hcd : (x == ("__classdict__" : Str)) = false := by decide)
    (hbase : attributeBase (.Name x xp) "append" X.env (eval (.Name x xp) X.env) = eval (.Name x xp) X.env := by rfl)
    (hfew : ((backTo cpos (starEach [e] X.env)).all (fun x => !x.1) && (backToKw cpos (keywordEach [] X.env)).all (fun x => x.1.isSome)
      && decide ([e].length + ([] : List Keyword).length + (if ([] : List Keyword).isEmpty then 0 else 1) < 30)) = true := by rfl)
    (hline : (apos.endLine == cpos.line) = true := by rfl) (hs : starEach [e] X.env = (false, eval e X.env) :: starEach [] X.env := by rfl) (hplain : (backTo cpos (starEach [] X.env)).any (·.1) = false := by rfl)
    (hsw : swapsWith (.Call (.Attribute (.Name x xp) "append" apos) [e] [] cpos) none pos.line X.env = pure false := by rfl) :
    DS X C W (.Expr (.Call (.Attribute (.Name x xp) "append" apos) [e] [] cpos) pos) (mApp i m) :=
  ⟨PS.imp (ps_expr (pe_bm PySem.F.plainAttrs_list PySem.F.slot_list_append PySem.F.type_list_append mt_append (pe_var hN hv hd hcd) (pa_cons he.pe pa_nil hs) hbase hfew hline hs hplain) hsw) fun D σ H ⟨Z, G, env, er, q⟩ => by
    unfold mApp at q
    split at q
    · rename_i ds hi
      have hi := getD_some hi (by simp)
      obtain ⟨v, h1, p, rfl, us, h3, h4⟩ := er.at' i _ hi
      refine ⟨.ref p, h1, tyV_list h3, Z, G, env, er, ?_⟩
      cases ha : m env with
      | stuck => rw [ha] at q; exact q.elim
      | exc e =>
        rw [ha] at q
        exact fun cls d G' H' x k => q σ H' G' cls d x.g (er.ext x) k
      | ok a =>
        rw [ha] at q
        intro y G1 H1 x1 va
        obtain ⟨G2, s2, er2, va2⟩ := frz_go (er.ext x1) va fun p hp => er.free hp
        dsimp only at q
        cases hf : a.fr with
        | ow n w => rw [hf] at q; exact q.elim
        | fz d =>
          rw [hf] at q va2
          dsimp only at q
          split at q
          · rename_i hz
            have hH1 := x1.h _ _ h3
            refine ⟨p, us, y, rfl, rfl, hH1, by rw [h4.length]; exact hz, q _ _ G2 (x1.g.trans s2) (er2.put hi h1 ⟨_, upd_same, ?_⟩)⟩
            exact (h4.mono (x1.g.trans s2)).append (.cons va2 .nil)
          · exact q.elim
    · exact q.elim⟩
end
end DL
namespace DL
open PySem PySem.Spec PyProof.Rows L2
section
variable {X : Cx} {C : CT} {W : WX}
def tyName : D → Option String
  | .non => some "NoneType"
  | .bl _ => some "bool"
  | .int _ => some "int"
  | .str _ => some "str"
  | .tup _ => some "tuple"
  | .lst _ => some "list"
  | .scr _ => some "list"
  | _ => none
theorem ty_of {K : KC} {H : Hp} {x : V} {d : D} {t : String} (r : Rep K H x d) (h : tyName d = some t) : TyX K.K H x (.type t) := by
  cases r with
  | non => cases h; exact .base .non
  | bl b => cases h; exact .base (.bl b)
  | int i => cases h; exact .base (.int i)
  | str s => cases h; exact .base (.str s)
  | tup sq r =>
    cases h
    rcases sq with (e | ⟨o, e⟩) | ⟨o, its, n, e, c, _⟩
    · exact .base (.tup e)
    · exact .fTuple e
    · exact .kTuple e c
  | lst e r => cases h; exact .base (.lst e)
  | scr sq =>
    cases h
    rcases sq with (e | ⟨o, e⟩) | ⟨o, its, n, e, c, _⟩
    · exact .base (.lst e)
    · exact .base (.frz e)
    · exact .kList e c
  | dk e r => cases h
  | dt e r => cases h
  | ty _ => cases h
  | cls _ => cases h
  | ins _ _ _ => cases h
def isTy (T : String) (d : D) : Option Bool := (tyName d).bind fun t => kitB t T
def gIsi : List EV → Rz EV
  | [a, .fz (.ty T)] => orStuck (isTy T a.d) >>= fun k => .ok (.fz (.bl k))
  | _ => .stuck
@[simp] theorem gIsi_ty (a : EV) (T : String) : gIsi [a, .fz (.ty T)] = orStuck (isTy T a.d) >>= fun k => .ok (.fz (.bl k)) := rfl
theorem ne_gIsi : NoExcL gIsi := ⟨fun a e h => by
  unfold gIsi at h
  split at h
  · exact noexc_bind (fun _ _ z => by cases z) e h
  · cases h⟩
theorem cd_isi : CallD X C (.builtin "isinstance") gIsi := ⟨_, call_isi, fun Z G H Hs vs evs ev Q s zh va hg q => by
  unfold gIsi at hg
  split at hg
  · rename_i a T
    obtain ⟨v, u, rfl, k, l⟩ := evs2 va
    have l' : Rep (kc X C) G u (.ty T) := l
    cases l'
    unfold isTy at hg
    cases ht : tyName a.d with
    | none => rw [ht] at hg; cases hg
    | some t =>
      rw [ht] at hg
      simp only [Option.bind_some] at hg
      cases hk : kitB t T with
      | none => rw [hk] at hg; cases hg
      | some b =>
        rw [hk] at hg
        cases hg
        exact ⟨v, .ty T, .type t, .type T, b, rfl, .ty T, ty_of (k.rep s) ht, kit_ty hk, giveB s q⟩
  · cases hg⟩
theorem de_bltn {x : Str} {n : String} {pos : Pos} (hm : X.mg x = none) (hv : bootBuiltins x = some (.type n)) (hg : Gl X x := by rfl) (hn : x ≠ "__name__" := by decide) (hd : (x == ("__debug__" : Str)) = false := by decide) : DE X C W (.Name x pos) (mC (.ty n)) :=
  de_of_val (pe_bltn hg hm hv (v := .ty n) rfl hn hd) fun _ => .ty n
theorem isTy_bl (T : String) (b : Bool) : isTy T (.bl b) = kitB "bool" T := rfl
theorem isTy_int (T : String) (b : Int) : isTy T (.int b) = kitB "int" T := rfl
theorem isTy_str (T : String) (b : Str) : isTy T (.str b) = kitB "str" T := rfl
theorem isTy_tup (T : String) (b : List D) : isTy T (.tup b) = kitB "tuple" T := rfl
theorem isTy_lst (T : String) (b : List D) : isTy T (.lst b) = kitB "list" T := rfl
theorem isTy_non (T : String) : isTy T .non = kitB "NoneType" T := rfl
theorem kitB_bb : kitB "bool" "bool" = some true := by decide +kernel
theorem kitB_bi : kitB "bool" "int" = some true := by decide +kernel
theorem kitB_bs : kitB "bool" "str" = some false := by decide +kernel
theorem kitB_bt : kitB "bool" "tuple" = some false := by decide +kernel
theorem kitB_bl : kitB "bool" "list" = some false := by decide +kernel
theorem kitB_ib : kitB "int" "bool" = some false := by decide +kernel
theorem kitB_ii : kitB "int" "int" = some true := by decide +kernel
theorem kitB_is : kitB "int" "str" = some false := by decide +kernel
theorem kitB_it : kitB "int" "tuple" = some false := by decide +kernel
theorem kitB_il : kitB "int" "list" = some false := by decide +kernel
theorem kitB_sb : kitB "str" "bool" = some false := by decide +kernel
theorem kitB_si : kitB "str" "int" = some false := by decide +kernel
theorem kitB_ss : kitB "str" "str" = some true := by decide +kernel
theorem kitB_st : kitB "str" "tuple" = some false := by decide +kernel
theorem kitB_sl : kitB "str" "list" = some false := by decide +kernel
theorem kitB_tb : kitB "tuple" "bool" = some false := by decide +kernel
theorem kitB_ti : kitB "tuple" "int" = some false := by decide +kernel
theorem kitB_ts : kitB "tuple" "str" = some false := by decide +kernel
theorem kitB_tt : kitB "tuple" "tuple" = some true := by decide +kernel
theorem kitB_tl : kitB "tuple" "list" = some false := by decide +kernel
theorem kitB_lb : kitB "list" "bool" = some false := by decide +kernel
theorem kitB_li : kitB "list" "int" = some false := by decide +kernel
theorem kitB_ls : kitB "list" "str" = some false := by decide +kernel
theorem kitB_lt : kitB "list" "tuple" = some false := by decide +kernel
theorem kitB_ll : kitB "list" "list" = some true := by decide +kernel
theorem kitB_nb : kitB "NoneType" "bool" = some false := by decide +kernel
theorem kitB_ni : kitB "NoneType" "int" = some false := by decide +kernel
theorem kitB_ns : kitB "NoneType" "str" = some false := by decide +kernel
theorem kitB_nt : kitB "NoneType" "tuple" = some false := by decide +kernel
theorem kitB_nl : kitB "NoneType" "list" = some false := by decide +kernel

mutual
def pureD : D → Bool
  | .non | .bl _ | .int _ | .str _ | .ty _ | .cls _ => true
  | .tup ds => pureDs ds
  | _ => false
def pureDs : List D → Bool
  | [] => true
  | d :: ds => pureD d && pureDs ds
end
def tups (H : Hp) : Hp := fun a => match H a with
  | some (.tup vs) => some (.tup vs)
  | some (.frz o (.tup vs)) => some (.frz o (.tup vs))
  | some (.xd fs) => some (.xd fs)
  | _ => none
theorem tups_sub (H : Hp) : Sub (tups H) H := fun a o e => by
  unfold tups at e
  split at e
  · rename_i vs h; rw [h, e]
  · rename_i ob vs h; rw [h, e]
  · rename_i fs h; rw [h, e]
  · cases e
theorem tups_get {H : Hp} {a : Addr} {vs : List V} (h : H a = some (.tup vs)) : tups H a = some (.tup vs) := by unfold tups; rw [h]
theorem tups_getF {H : Hp} {a : Addr} {ob : Obj} {vs : List V} (h : H a = some (.frz ob (.tup vs))) : tups H a = some (.frz ob (.tup vs)) := by unfold tups; rw [h]
theorem tups_getX {H : Hp} {a : Addr} {fs : List (Str × V)} (h : H a = some (.xd fs)) : tups H a = some (.xd fs) := by unfold tups; rw [h]
mutual
theorem pure_rep {K : KC} {H : Hp} : ∀ {v : V} {d : D}, Rep K H v d → pureD d = true → Rep K (tups H) v d
  | _, _, .non, _ => .non
  | _, _, .bl b, _ => .bl b
  | _, _, .int i, _ => .int i
  | _, _, .str x, _ => .str x
  | _, _, .ty n, _ => .ty n
  | _, _, .cls e, _ => .cls e
  | _, _, .tup sq r, h => .tup (by
      rcases sq with (e | ⟨o, e⟩) | e
      · exact .inl (.inl (tups_get e))
      · exact .inl (.inr ⟨o, tups_getF e⟩)
      · exact .inr e) (pure_reps r (by unfold pureD at h; exact h))
  | _, _, .lst _ _, h => by unfold pureD at h; cases h
  | _, _, .scr _, h => by unfold pureD at h; cases h
  | _, _, .dk _ _, h => by unfold pureD at h; cases h
  | _, _, .dt _ _, h => by unfold pureD at h; cases h
  | _, _, .ins _ _ _, h => by unfold pureD at h; cases h
theorem pure_reps {K : KC} {H : Hp} : ∀ {vs : List V} {ds : List D}, Reps K H vs ds → pureDs ds = true → Reps K (tups H) vs ds
  | _, _, .nil, _ => .nil
  | _, _, .cons a b, h => by
    unfold pureDs at h
    obtain ⟨h1, h2⟩ := Bool.and_eq_true_iff.mp h
    exact .cons (pure_rep a h1) (pure_reps b h2)
end
def pureFs (fs : List (Str × D)) : Bool := fs.all fun f => pureD f.2
theorem pure_repF {K : KC} {H : Hp} : ∀ {vs : List (Str × V)} {ds : List (Str × D)}, RepF K H vs ds → pureFs ds = true → RepF K (tups H) vs ds
  | _, _, .nil, _ => .nil
  | _, _, .cons a b, h => by
    unfold pureFs at h
    rw [List.all_cons] at h
    obtain ⟨h1, h2⟩ := Bool.and_eq_true_iff.mp h
    exact .cons (pure_rep a h1) (pure_repF b h2)
def orH (A B : Hp) : Hp := fun a => match A a with
  | some o => some o
  | none => B a
theorem orH_l (A B : Hp) : Sub A (orH A B) := fun a o e => by unfold orH; rw [e]
theorem orH_r {A B H : Hp} (h : Sub A H) (k : Sub B H) : Sub B (orH A B) := fun a o e => by
  unfold orH
  cases q : A a with
  | none => exact e
  | some u' =>
    have h1 := h a u' q
    have h2 := k a o e
    rw [h1] at h2
    exact h2
theorem orH_none {A B : Hp} {a : Addr} (h : A a = none) : orH A B a = B a := by unfold orH; rw [h]
theorem tups_nt {H : Hp} {a : Addr} (h : NT H a) : tups H a = none := by
  obtain ⟨o, e, k⟩ := h
  unfold tups
  rw [e]
  split
  · rename_i h; cases h; cases k
  · rename_i h; cases h; cases k
  · rename_i h; cases h; cases k
  · rfl
theorem orH_sub {A B H : Hp} (h : Sub A H) (k : Sub B H) : Sub (orH A B) H := fun a o e => by
  unfold orH at e
  cases q : A a with
  | none => rw [q] at e; exact k a o e
  | some u' => rw [q] at e; cases e; exact h a _ q

def allFzB : List EV → Bool
  | [] => true
  | .fz _ :: r => allFzB r
  | _ :: _ => false
def lend : EV → Rz EV
  | .fz d => if pureD d = true then .ok (.fz d) else .stuck
  | .ow true (.lst ds) => if pureDs ds = true then .ok (.ow true (.lst ds)) else .stuck
  | _ => .stuck
def own? : EV → EV
  | .ow _ w => .ow true w
  | e => e
def appF (F : Fn) (evs : List EV) : Rz EV := match F (evs.map EV.d) with
  | .ok r => if allFzB evs = true then .ok (own? r) else lend (own? r)
  | .exc e => if allFzB evs = true then .exc e else if pureFs e.fs = true then .exc e else .stuck
  | .stuck => .stuck
theorem EVs.reps {K : KC} {Z : Ent} {Hs G H : Hp} (s : Sub G H) : ∀ {vs : List V} {evs : List EV}, EVs K Z Hs G H vs evs → Reps K H vs (evs.map EV.d)
  | _, _, .nil => .nil
  | _, _, .cons a b => .cons (a.rep s) (b.reps s)
theorem EVs.repsF {K : KC} {Z : Ent} {Hs G H : Hp} : ∀ {vs : List V} {evs : List EV}, EVs K Z Hs G H vs evs → allFzB evs = true → Reps K G vs (evs.map EV.d)
  | _, _, .nil, _ => .nil
  | _, _, .cons (e := .fz d) a b, h => .cons a (b.repsF h)
  | _, _, .cons (e := .ow n w) a b, h => by cases h
theorem EVs.length {K : KC} {Z : Ent} {Hs G H : Hp} : ∀ {vs : List V} {evs : List EV}, EVs K Z Hs G H vs evs → vs.length = evs.length
  | _, _, .nil => rfl
  | _, _, .cons a b => congrArg Nat.succ b.length
theorem ask_fn {F : Fn} {n : Nat} {Z : Ent} {G1 H1 : Hp} {σ : L2.St} {env : Env} {vs : List V} {evs : List EV} {Hs : Hp} {Q : VK} {E : XK} (er : ER (kc X C) Z G1 H1 σ env) (va : EVs (kc X C) Z Hs G1 H1 vs evs) (hn : evs.length = n)
    (q : match appF F evs with
      | .ok ev => ∀ v G' H', Ext G1 H1 G' H' → EVok (kc X C) Z H1 G' H' v ev → Q v H'
      | .exc e => ∀ cls d G' H', Ext G1 H1 G' H' → ExcOk (kc X C) G' H' cls d e → E cls d H'
      | .stuck => False) : spD (kc X C) n F vs H1 Q E := by
  unfold appF at q
  have zz : ∀ {G' H' : Hp} {v : V} {ev : EV} {G0 : Hp}, EVok (kc X C) ⟨G0, H1⟩ H1 G' H' v ev → EVok (kc X C) Z H1 G' H' v (own? ev) := fun {G' H' v ev G0} k => by
    cases ev with
    | fz d => exact k
    | ow n w =>
      obtain ⟨p, e, h1, h2, h3, h4⟩ := k
      exact ⟨p, e, h1, h2, er.zh.none h3, fun _ => h3⟩
  by_cases hf : allFzB evs = true
  · refine ⟨G1, evs.map EV.d, er.sub, va.repsF hf, by rw [List.length_map]; exact hn, ?_⟩
    cases hF : F (evs.map EV.d) with
    | stuck => rw [hF] at q; exact q
    | exc e =>
      rw [hF] at q
      dsimp only at q
      rw [if_pos hf] at q
      exact q
    | ok ev =>
      rw [hF] at q
      dsimp only at q
      rw [if_pos hf] at q
      exact fun v G' H' x k => q v G' H' x (zz k)
  · refine ⟨H1, evs.map EV.d, .refl, va.reps er.sub, by rw [List.length_map]; exact hn, ?_⟩
    have lower : ∀ {G' H' : Hp}, Ext H1 H1 G' H' → Ext G1 H1 (orH G1 (tups H')) H' := fun {G' H'} x =>
      ⟨orH_l _ _, x.h, orH_sub (er.sub.trans x.h) (tups_sub H'), fun a e n => by rw [orH_none e]; exact tups_nt (n.mono x.h)⟩
    cases hF : F (evs.map EV.d) with
    | stuck => rw [hF] at q; exact q
    | exc e =>
      rw [hF] at q
      dsimp only at q
      rw [if_neg hf] at q
      intro cls d G' H' x k
      by_cases hp : pureFs e.fs = true
      · rw [if_pos hp] at q
        refine q cls d _ H' (lower x) ?_
        obtain ⟨a, h1, h2, h3⟩ := k
        refine ⟨a, h1, h2, ?_⟩
        rcases h3 with h3 | ⟨dd, fs, h3, h4, h5⟩
        · exact .inl h3
        · exact .inr ⟨dd, fs, h3, orH_r (er.sub.trans x.h) (tups_sub H') _ _ (tups_getX (x.s _ _ h4)), (pure_repF (h5.mono x.s) hp).mono (orH_r (er.sub.trans x.h) (tups_sub H'))⟩
      · rw [if_neg hp] at q; exact q.elim
    | ok ev =>
      rw [hF] at q
      dsimp only at q
      rw [if_neg hf] at q
      intro v G' H' x k
      have lo := lower x
      have tr : Sub (tups H') (orH G1 (tups H')) := orH_r (er.sub.trans x.h) (tups_sub H')
      cases ev with
      | fz d =>
        have q' : match (if pureD d = true then Rz.ok (EV.fz d) else .stuck) with
          | .ok ev => ∀ v G' H', Ext G1 H1 G' H' → EVok (kc X C) Z H1 G' H' v ev → Q v H'
          | .exc e => ∀ cls d G' H', Ext G1 H1 G' H' → ExcOk (kc X C) G' H' cls d e → E cls d H'
          | .stuck => False := q
        by_cases hp : pureD d = true
        · rw [if_pos hp] at q'
          exact q' v _ H' lo ((pure_rep (Rep.mono x.s k) hp).mono tr)
        · rw [if_neg hp] at q'; exact q'.elim
      | ow n w =>
        obtain ⟨p, e, h1, h2, h3, h4⟩ := k
        cases w with
        | dct t kvs => exact q.elim
        | ins c fs => exact q.elim
        | self c fs => exact q.elim
        | lst ds =>
          have q' : match (if pureDs ds = true then Rz.ok (EV.ow true (.lst ds)) else .stuck) with
            | .ok ev => ∀ v G' H', Ext G1 H1 G' H' → EVok (kc X C) Z H1 G' H' v ev → Q v H'
            | .exc e => ∀ cls d G' H', Ext G1 H1 G' H' → ExcOk (kc X C) G' H' cls d e → E cls d H'
            | .stuck => False := q
          by_cases hp : pureDs ds = true
          · rw [if_pos hp] at q'
            obtain ⟨vs, e1, r1⟩ := h1
            have h3' : H1 p = none := h3
            refine q' v _ H' lo ⟨p, e, ⟨vs, e1, (pure_reps (r1.mono x.s) hp).mono tr⟩, ?_, er.zh.none h3', fun _ => h3'⟩
            rw [orH_none (er.sub.none h3')]
            exact tups_nt ⟨_, e1, rfl⟩
          · rw [if_neg hp] at q'; exact q'.elim
def mFn (F : Fn) (a : Env → Rz (List EV)) (n : Nat) : Env → Rz EV := fun env => a env >>= fun evs => if evs.length = n then appF F evs else .stuck
theorem call_go {F : Fn} {n : Nat} {m : Env → Rz (List EV)} {σ : L2.St} {H : Hp} {Q : VK} (h : tE (kc X C) W (mFn F m n) σ H Q) : tCallS (spD (kc X C) n F) (WE W) (tA (kc X C) W m) σ H Q :=
  tA_seq (f := fun evs _ => if evs.length = n then appF F evs else .stuck) h fun Z G1 H1 env vs a er va hs q => by
    by_cases hn : a.length = n
    · rw [if_pos hn] at q
      exact ask_fn er va hn q
    · rw [if_neg hn] at q; exact q.elim
theorem de_fn {F : Fn} {k : Nat} {f : Addr} {fd : FuncData} {ps : List Str} {x : Str} {p pos : Pos} {e : Expr} {es : List Expr} {m : Env → Rz (List EV)} (FO : FnOk X.prog X.w X.K X.mg X.base (L2.CX X.prog X.w) k f fd ps (spD (kc X C) ps.length F)) (hr : Room k X.A) (hm : X.mg x = some (.ref f)) (hk : PySem.W.keepIn X.K (.ref f) = true) (hb : Binds X.K fd ps [])
    (tk : Takes X W) (ha : DA X C W (e :: es) m) (hg : Gl X x := by rfl) (hdb : (x == ("__debug__" : Str)) = false := by decide) (he : starEach (e :: es) X.env = (false, eval e X.env) :: starEach es X.env := by rfl) (hpl : (backTo pos (starEach es X.env)).any (·.1) = false := by rfl) :
    DE X C W (.Call (.Name x p) (e :: es) [] pos) (mFn F m ps.length) :=
  ⟨PE.imp (pe_callS FO hr hg hm hk hb (fun σ => passAt tk σ) ha.pa hdb he hpl) fun σ H Q h => call_go h⟩
def mPar (i j : Nat) (m : Env → Rz (List EV)) : Env → Out := fun env => match m env with
  | .ok evs => (match allFz evs with
    | some [d, e] => .nx ((env.set i (.val d)).set j (.val e))
    | _ => .stuck)
  | .exc e => .exc e env
  | .stuck => .stuck
theorem ds_par {i j : Nat} {x y : Str} {a b : Expr} {m : Env → Rz (List EV)} {px py pt pos : Pos} {kt k2 pt2} (ha : DA X C W [a, b] m) (hN : X.N.Nodup) (hc : X.calm = true := by rfl) (hi : X.N[i]? = some x := by rfl) (hj : X.N[j]? = some y := by rfl) (hij : i ≠ j := by decide)
    (hx : X.env.scope.names.lookup x = some .local := by rfl) (hy : X.env.scope.names.lookup y = some .local := by rfl)
    (hw : swappedStores [.Tuple [.Name x px, .Name y py] kt pt] (.Tuple [a, b] k2 pt2) X.env = pure (some [x, y]) := by rfl)
    (hs : swapsWithSole [.Tuple [.Name x px, .Name y py] kt pt] (.Tuple [a, b] k2 pt2) pos.line X.env = pure false := by rfl) :
    DS X C W (.Assign [.Tuple [.Name x px, .Name y py] kt pt] (.Tuple [a, b] k2 pt2) pos) (mPar i j m) :=
  ⟨PS.imp (ps_par hc hN hi hj hij hx hy ha.pa hw hs) fun D σ H ⟨Z, G, env, er, q⟩ => by
    unfold mPar at q
    refine ⟨Z, G, env, er, ?_⟩
    cases hm : m env with
    | stuck => rw [hm] at q; exact q.elim
    | exc e => rw [hm] at q; exact fun cls d G' H' x k => q σ H' G' cls d x.g (er.ext x) k
    | ok evs =>
      rw [hm] at q
      dsimp only at q
      intro vs G1 H1 x1 va
      split at q
      · rename_i d e hz
        have r := allFz_ok hz va
        cases r with
        | cons r1 r2 =>
          cases r2 with
          | cons r2 r3 =>
            cases r3
            exact ⟨_, _, rfl, q _ H1 G1 x1.g (((er.ext x1).setV r1).setV r2)⟩
      · exact q.elim⟩
end
end DL
namespace DL
open PySem PySem.Spec PyProof.Rows L2
section
variable {X : Cx} {C : CT} {W : WX}
def mChn (ma mb mc : Env → Rz EV) (g g' : EV → EV → Rz EV) : Env → Rz EV := fun env => ma env >>= fun a => mb env >>= fun b => g a b >>= fun r => asB r >>= fun k => if k = true then (mc env >>= fun c => g' b c) else .ok (.fz (.bl false))
theorem de_chain {op op' : CmpOp} {g g' : EV → EV → Rz EV} {a b c : Expr} {ma mb mc : Env → Rz EV} {pos : Pos} (ho : OpD X C (compareOp op) g) (hg : NoExc g) (ho' : OpD X C (compareOp op') g') (hg' : NoExc g') (ha : DE X C W a ma) (hb : DE X C W b mb) (hc : DE X C W c mc)
    (hpe : ∀ (r r' : R2) (ta tb tc : TE), OpR X (compareOp op) r → OpR X (compareOp op') r' → PE X a ta → PE X b tb → PE X c tc → PE X (.Compare a [op, op'] [b, c] pos) (tChain r r' ta tb tc)) :
    DE X C W (.Compare a [op, op'] [b, c] pos) (mChn ma mb mc g g') := by
  obtain ⟨r, h1, h2⟩ := ho
  obtain ⟨r', h1', h2'⟩ := ho'
  refine ⟨PE.imp (hpe r r' _ _ _ h1 h1' ha.pe hb.pe hc.pe) fun σ H Q ⟨Z, G, env, er, q⟩ => ?_⟩
  unfold mChn at q
  refine ⟨Z, G, env, er, ?_⟩
  cases ea : ma env with
  | stuck => rw [ea] at q; exact q.elim
  | exc e => rw [ea] at q; exact q
  | ok a =>
    rw [ea] at q
    refine fun x G1 H1 x1 va => ⟨Z, G1, env, er.ext x1, ?_⟩
    cases eb : mb env with
    | stuck => rw [eb] at q; exact q.elim
    | exc e => rw [eb] at q; exact fun cls d G' H' x2 => q cls d G' H' (x1.trans x2)
    | ok b =>
      rw [eb] at q
      simp only [Rz.ok_bind] at q
      intro y G2 H2 x2 vb
      have er2 := er.ext (x1.trans x2)
      have zh2 : Sub Z.H H2 := er2.zh
      refine h2 Z G2 H2 H x y a b _ x2.s zh2 (va.ext x2) (vb.start x1.h) ?_
      cases eg : g a b with
      | stuck => rw [eg] at q; exact q.elim
      | exc e => exact absurd eg (hg.no a b e)
      | ok ev =>
        rw [eg] at q
        simp only [Rz.ok_bind] at q
        intro z G3 H3 x3 vz
        cases ek : asB ev with
        | stuck => rw [ek] at q; exact q.elim
        | exc e => exact absurd ek asB_exc
        | ok k =>
          rw [ek] at q
          simp only [Rz.ok_bind] at q
          refine ⟨k, asB_ok ek vz, ?_⟩
          have xx := x1.trans (x2.trans x3)
          cases k with
          | false =>
            rw [if_neg Bool.false_ne_true] at q ⊢
            exact q _ G3 H3 xx (.bl false)
          | true =>
            rw [if_pos rfl] at q ⊢
            refine ⟨Z, G3, env, er.ext xx, ?_⟩
            cases ec : mc env with
            | stuck => rw [ec] at q; exact q.elim
            | exc e => rw [ec] at q; exact fun cls d G' H' x4 => q cls d G' H' (xx.trans x4)
            | ok c =>
              rw [ec] at q
              simp only [Rz.ok_bind] at q
              intro u G4 H4 x4 vc
              refine h2' Z G4 H4 H y u b c Q x4.s (zh2.trans (x3.h.trans x4.h)) ((vb.ext (x3.trans x4)).start x1.h) (vc.start xx.h) ?_
              cases eg' : g' b c with
              | stuck => rw [eg'] at q; exact q.elim
              | exc e => exact absurd eg' (hg'.no b c e)
              | ok ev' =>
                rw [eg'] at q
                exact fun v G' H' x5 ve => q v G' H' (xx.trans (x4.trans x5)) (ve.start (xx.trans x4).h)
theorem de_gS {x y : Str} {pos : Pos} (hm : ∃ t, X.mg x = some (.str y t)) (hg : Gl X x := by rfl) (hd : (x == ("__debug__" : Str)) = false := by decide) : DE X C W (.Name x pos) (mC (.str y)) := by
  obtain ⟨t, h⟩ := hm
  exact de_globS h hg hd
theorem de_gI {x : Str} {y : Int} {pos : Pos} (hm : ∃ t, X.mg x = some (.int y t)) (hg : Gl X x := by rfl) (hd : (x == ("__debug__" : Str)) = false := by decide) : DE X C W (.Name x pos) (mC (.int y)) := by
  obtain ⟨t, h⟩ := hm
  exact de_globI h hg hd
end
theorem room1 {k : Nat} {A : Around} (r : Room k A) : A.units + 1 < cLine := by have := r.un; omega
theorem room5 {k : Nat} {A : Around} (r : Room k A) : A.units + 65 < cLine := by have := r.un; omega
section
variable {P : Program} {w : World} {mg : Str → Option Value} {base : Heap}
def FnG (P : Program) (w : World) (K : KC) (mg : Str → Option Value) (base : Heap) (k : Nat) (x : Str) (ps : List Str) (F : Fn) : Prop :=
  ∃ fd, FnOk P w K.K mg base (L2.CX P w) k (He.ga K.K x) fd ps (spD K ps.length F) ∧ Binds K.K fd ps [] ∧ PySem.W.keepIn K.K (.ref (He.ga K.K x)) = true ∧ mg x = some (.ref (He.ga K.K x))
theorem fn_dataD {K : KC} {x qual : Str} {params : Arguments} {body : List Stmt} {scope : Scope} {dvs : List V} {kws : List (Str × V)} {f : Addr} {fd : FuncData} {N ps : List Str} {k : Nat} {b : Env → Out} (F : FunD K.K x qual params body scope dvs kws f fd) (S : FnScope N ps scope) (hn : ps.length ≤ N.length)
    (hbody : ∀ (cdv : Value) (A : Around) (outer : List PySem.Env) (s : Shared) (H : Hp) (E : XK), Room k (A.deeper (envOfC qual scope s.heap.objs.size f cdv)) →
      PassesOwn (model P w) (A.deeper (envOfC qual scope s.heap.objs.size f cdv)) (envOfC qual scope s.heap.objs.size f cdv) (cxOf (L2.CX P w) P w K.K mg base N qual scope f cdv A outer s H E).xe →
      Takes (cxOf (L2.CX P w) P w K.K mg base N qual scope f cdv A outer s H E) (fun cls d _ H => E cls d H) → DSs (cxOf (L2.CX P w) P w K.K mg base N qual scope f cdv A outer s H E) K.C (fun cls d _ H => E cls d H) body b) : FnOk P w K.K mg base (L2.CX P w) (k + 1) f fd ps (spD K ps.length (runB N.length b)) := by
  refine F.ok S (fun vs H Q E ⟨G, ds, _, r, l, _⟩ => r.length.trans l) fun cdv A outer s H vs Q E hr ⟨G, ds, hs, r, l, h⟩ => ?_
  refine ⟨_, (hbody cdv A outer s H E hr (passes_of rfl) (takes_of rfl rfl rfl rfl)).pss, ⟨G, H⟩, G, _, er_start hs r N (by rw [l]; exact hn), ?_⟩
  unfold runB at h
  show Post K _ _ _ _ _
  cases hb : b (ds.map SL.val ++ List.replicate (N.length - ds.length) SL.no) with
  | nx e =>
    rw [hb] at h
    exact fun σ H' G' s' er => h .non G' H' er.toExt .non
  | ret ev =>
    rw [hb] at h
    refine fun σ env v H' G' Hs s' er hz va => h v G' H' er.toExt ?_
    exact va.start hz
  | exc e env =>
    rw [hb] at h
    exact fun σ H' G' cls d s' er k => h cls d G' H' er.toExt k
  | bk e => rw [hb] at h; exact h.elim
  | ct e => rw [hb] at h; exact h.elim
  | stuck => rw [hb] at h; exact h.elim
theorem fn_global {K : KC} {x : Str} {params : Arguments} {body : List Stmt} {scope : Scope} {N ps : List Str} {k : Nat} {b : Env → Out} (F : ∃ fd, FunD K.K x x params body scope [] [] (He.ga K.K x) fd) (hm : mg x = some (.ref (He.ga K.K x))) (S : FnScope N ps scope) (hn : ps.length ≤ N.length)
    (hbind : ∀ (kV doc pm : Value) (an : Option Addr) (cdv ct : Value) (us : List Value), us.length = ps.length → bindArgs (PySem.W.fnOf x x params body scope .none kV doc pm an cdv ct) ⟨us, []⟩ = pure (ps.zip us))
    (hbody : ∀ (cdv : Value) (A : Around) (outer : List PySem.Env) (s : Shared) (H : Hp) (E : XK), Room k (A.deeper (envOfC x scope s.heap.objs.size (He.ga K.K x) cdv)) →
      PassesOwn (model P w) (A.deeper (envOfC x scope s.heap.objs.size (He.ga K.K x) cdv)) (envOfC x scope s.heap.objs.size (He.ga K.K x) cdv) (cxOf (L2.CX P w) P w K.K mg base N x scope (He.ga K.K x) cdv A outer s H E).xe →
      Takes (cxOf (L2.CX P w) P w K.K mg base N x scope (He.ga K.K x) cdv A outer s H E) (fun cls d _ H => E cls d H) → DSs (cxOf (L2.CX P w) P w K.K mg base N x scope (He.ga K.K x) cdv A outer s H E) K.C (fun cls d _ H => E cls d H) body b) :
    FnG P w K mg base (k + 1) x ps (runB N.length b) := by
  obtain ⟨fd, F⟩ := F
  exact ⟨fd, fn_dataD F S hn hbody, F.bindsN hbind, F.kp, hm⟩
end
section
variable {X : Cx} {C : CT} {W : WX}
theorem de_call {F : Fn} {k n : Nat} {ps : List Str} {x : Str} {p pos : Pos} {e : Expr} {es : List Expr} {m : Env → Rz (List EV)} (FO : FnG X.prog X.w (kc X C) X.mg X.base k x ps F) (hr : Room k X.A)
    (tk : Takes X W) (ha : DA X C W (e :: es) m) (hg : Gl X x := by rfl) (hdb : (x == ("__debug__" : Str)) = false := by decide) (he : starEach (e :: es) X.env = (false, eval e X.env) :: starEach es X.env := by rfl) (hpl : (backTo pos (starEach es X.env)).any (·.1) = false := by rfl) (hn : n = ps.length := by rfl) :
    DE X C W (.Call (.Name x p) (e :: es) [] pos) (mFn F m n) := by
  obtain ⟨fd, h1, h2, h3, h4⟩ := FO
  subst hn
  exact de_fn h1 hr h4 h3 h2 tk ha hg hdb he hpl
end
theorem law_end {l : PySem.W.OpenLaw} {k : Nat} {q : Program} {loose : List Str} {XP : (Str → Option Value) → Heap → Prop} {YP : World → Heap → Prop} {d : DefRec} {x : Str} {F : Fn} {C : PySem.W.Frag → CT}
    (hn : l.most = some 63) (hdf : d.params.defaults = []) (hr : Room k callerA)
    (hF : ∀ ns : List Int, ns.length ≤ 63 → F [.scr ns] = .ok (.fz (.bl true)))
    (H : ∀ (w : World) (mg : Str → Option Value) (fa : Addr) (h : Heap), YP w h → h.Ns mainGlobals mg → mg d.name = some (.ref fa) →
      ∃ (K : PySem.W.Frag) (fd : FuncData), K.In h ∧ (∀ (s : Shared) (u : Value), BindsTo s fd ⟨[u], []⟩ [(x, u)]) ∧
        ∀ base : Heap, K.In base → base.Ns mainGlobals mg → FnOk l.prog w K mg base (L2.CX l.prog w) k fa fd [x] (spD ⟨K, C K⟩ 1 F)) :
    PySem.W.WalkO q loose XP YP l.row.toRowW d [] (fun f vs => PySem.call f vs) := by
  refine Att.attach_call hn hdf fun w s₀ s₁ mg mb fa o pm cd doc a vs ns G Y ho hd hcd hmg hobj hints hlen hg => ?_
  obtain ⟨K, fd, KX, hb, hFn⟩ := H w mg fa _ Y G.T.g hmg
  refine law_call KX G.T.g G.T.b G.T.builtins G.T.nolimit hg hobj hints (Nat.le_trans hlen (by decide)) hr hFn hb (fun H hO hS => ?_) fun H e s' z => ?_
  · refine ⟨H, [.scr ns], .refl, .cons (.scr hS) .nil, rfl, ?_⟩
    rw [hF ns hlen]
    exact fun v G' H' x k => rep_bl k
  · obtain ⟨_, _, _, _, _, _, _, _, _, _, _, _, z⟩ := z
    exact z
end DL
namespace DL
open PySem L2

theorem for_inv {α : Type} {p : D → Env → Rz Env} {b : Env → Out} (en : α → D) (I : Nat → Env → Prop) : ∀ (xs : List α) (k : Nat) (e0 : Env),
    (∀ (i : Nat) (x : α) (e : Env), xs[i]? = some x → I (k + i) e → ∃ e1 e2, p (en x) e = .ok e1 ∧ (b e1 = .nx e2 ∨ b e1 = .ct e2) ∧ I (k + i + 1) e2) → I k e0 →
    ∃ e', forF p b (xs.map en) e0 = .nx e' ∧ I (k + xs.length) e'
  | [], k, e0, _, h0 => ⟨e0, rfl, h0⟩
  | x :: xs, k, e0, h, h0 => by
    obtain ⟨e1, e2, h1, h2, h3⟩ := h 0 x e0 rfl h0
    obtain ⟨e', h4, h5⟩ := for_inv en I xs (k + 1) e2 (fun i y e hi he => by
      have e5 : k + 1 + i = k + (i + 1) := by omega
      rw [e5] at he
      obtain ⟨f1, f2, g1, g2, g3⟩ := h (i + 1) y e hi he
      refine ⟨f1, f2, g1, g2, ?_⟩
      have e6 : k + 1 + i + 1 = k + (i + 1) + 1 := by omega
      rw [e6]; exact g3) h3
    refine ⟨e', ?_, ?_⟩
    · rw [List.map_cons, forF, h1]
      dsimp only
      rcases h2 with h2 | h2 <;> (rw [h2]; exact h4)
    · rw [List.length_cons]
      have e7 : k + (xs.length + 1) = k + 1 + xs.length := by omega
      rw [e7]; exact h5
theorem for_ret {α : Type} {p : D → Env → Rz Env} {b : Env → Out} (en : α → D) (I : Nat → Env → Prop) (O : Out → Prop) : ∀ (xs : List α) (k : Nat) (e0 : Env),
    (∀ (i : Nat) (x : α) (e : Env), xs[i]? = some x → I (k + i) e → ∃ e1, p (en x) e = .ok e1 ∧ ((∃ e2, (b e1 = .nx e2 ∨ b e1 = .ct e2) ∧ I (k + i + 1) e2) ∨ (∃ ev, b e1 = .ret ev ∧ O (.ret ev)) ∨ ∃ e2, b e1 = .bk e2 ∧ O (.nx e2))) → I k e0 →
    (∃ e', forF p b (xs.map en) e0 = .nx e' ∧ I (k + xs.length) e') ∨ O (forF p b (xs.map en) e0)
  | [], k, e0, _, h0 => .inl ⟨e0, rfl, h0⟩
  | x :: xs, k, e0, h, h0 => by
    obtain ⟨e1, h1, h2⟩ := h 0 x e0 rfl h0
    rw [List.map_cons, forF, h1]
    dsimp only
    rcases h2 with ⟨e2, h2, h3⟩ | ⟨ev, h2, h3⟩ | ⟨e2, h2, h3⟩
    · have r := for_ret en I O xs (k + 1) e2 (fun i y e hi he => by
        have e5 : k + 1 + i = k + (i + 1) := by omega
        rw [e5] at he
        obtain ⟨f1, g1, g2⟩ := h (i + 1) y e hi he
        have e6 : k + 1 + i + 1 = k + (i + 1) + 1 := by omega
        rw [e6]
        exact ⟨f1, g1, g2⟩) h3
      have e7 : k + (x :: xs).length = k + 1 + xs.length := by rw [List.length_cons]; omega
      rw [e7]
      rcases h2 with h2 | h2 <;> (rw [h2]; exact r)
    · rw [h2]; exact .inr h3
    · rw [h2]; exact .inr h3
theorem lc_map {p : D → Env → Rz Env} {t : Env → Rz Bool} {e : Env → Rz EV} {env : Env} {α : Type} {en : α → D} {f : α → D} {k : α → Bool} {pe : α → Env} :
    ∀ (xs : List α) (acc : List D), (∀ x ∈ xs, p (en x) env = .ok (pe x) ∧ t (pe x) = .ok (k x) ∧ (k x = true → ∃ ev, e (pe x) = .ok ev ∧ ev.fr = .fz (f x))) → acc.length + xs.length ≤ sizeLine →
      lcF p t e env (xs.map en) acc = .ok (acc ++ (xs.filter k).map f)
  | [], acc, _, _ => by simp [lcF]
  | x :: xs, acc, h, hl => by
    obtain ⟨h1, h2, h3⟩ := h x List.mem_cons_self
    have hl' : acc.length + (xs.length + 1) ≤ sizeLine := hl
    rw [List.map_cons, lcF, h1]
    dsimp only
    rw [h2]
    cases hk : k x with
    | false =>
      dsimp only
      rw [lc_map xs acc (fun y hy => h y (List.mem_cons_of_mem _ hy)) (by omega), List.filter_cons_of_neg (by simp [hk])]
    | true =>
      obtain ⟨ev, h4, h5⟩ := h3 hk
      dsimp only
      rw [h4]
      dsimp only
      rw [h5]
      dsimp only
      rw [if_pos (by omega), lc_map xs _ (fun y hy => h y (List.mem_cons_of_mem _ hy)) (by simp; omega), List.filter_cons_of_pos hk, List.map_cons, List.append_assoc]
      rfl
theorem mLc_all {it : Env → Rz (List D)} {i : Nat} {e : Env → Rz EV} {env : Env} {α : Type} {en : α → D} {f : α → D} {xs : List α} (hi : it env = .ok (xs.map en))
    (he : ∀ x ∈ xs, ∃ ev, e ((env.set i .no).set i (.val (en x))) = .ok ev ∧ ev.fr = .fz (f x)) (hl : xs.length ≤ sizeLine) :
    mLc it (pName i) mYes e [i] env = .ok (.ow true (.lst (xs.map f))) := by
  unfold mLc
  rw [hi]
  simp only [Rz.ok_bind]
  rw [show wipeE env [i] = env.set i .no from rfl]
  rw [lc_map (pe := fun x => (env.set i .no).set i (.val (en x))) (k := fun _ => true) (f := f) xs [] (fun x hx => ⟨rfl, rfl, fun _ => he x hx⟩) (by simpa using hl)]
  rw [List.filter_eq_self.mpr (fun _ _ => rfl)]
  rfl
theorem mLc_if {it : Env → Rz (List D)} {i : Nat} {t : Env → Rz Bool} {e : Env → Rz EV} {env : Env} {α : Type} {en : α → D} {f : α → D} {k : α → Bool} {xs : List α} (hi : it env = .ok (xs.map en))
    (ht : ∀ x ∈ xs, t ((env.set i .no).set i (.val (en x))) = .ok (k x))
    (he : ∀ x ∈ xs, k x = true → ∃ ev, e ((env.set i .no).set i (.val (en x))) = .ok ev ∧ ev.fr = .fz (f x)) (hl : xs.length ≤ sizeLine) :
    mLc it (pName i) t e [i] env = .ok (.ow true (.lst ((xs.filter k).map f))) := by
  unfold mLc
  rw [hi]
  simp only [Rz.ok_bind]
  rw [show wipeE env [i] = env.set i .no from rfl]
  rw [lc_map (pe := fun x => (env.set i .no).set i (.val (en x))) (k := k) (f := f) xs [] (fun x hx => ⟨rfl, ht x hx, he x hx⟩) (by simpa using hl)]
  simp
theorem wh_inv {c : Env → Rz Bool} {b : Env → Out} {α : Type} (en : α → Env) (k : α → Bool) (step : α → α) (μ : α → Nat) (I : α → Prop)
    (hc : ∀ a, I a → c (en a) = .ok (k a)) (hb : ∀ a, I a → k a = true → (b (en a) = .nx (en (step a)) ∨ b (en a) = .ct (en (step a))) ∧ I (step a) ∧ μ (step a) < μ a) :
    ∀ (n : Nat) (a : α), I a → μ a < n → ∃ a', whF c b n (en a) = .nx (en a') ∧ I a' ∧ k a' = false
  | 0, a, _, h => absurd h (Nat.not_lt_zero _)
  | n + 1, a, ha, h => by
    rw [whF, hc a ha]
    cases hk : k a with
    | false => exact ⟨a, rfl, ha, hk⟩
    | true =>
      obtain ⟨h1, h2, h3⟩ := hb a ha hk
      obtain ⟨a', h4, h5⟩ := wh_inv en k step μ I hc hb n (step a) h2 (by omega)
      refine ⟨a', ?_, h5⟩
      dsimp only
      rcases h1 with h1 | h1 <;> (rw [h1]; exact h4)
theorem fuel_big {n : Nat} (h : n < 1000000000000) : n < fuel := Nat.lt_of_lt_of_le h (by unfold fuel; decide)
theorem size_big {n : Nat} (h : n ≤ 16777216) : n ≤ sizeLine := by rw [sizeLine_eq]; exact h
theorem gAll_map (bs : List Bool) : gAll [.fz (.lst (bs.map .bl))] = .ok (.fz (.bl (bs.all id))) := by simp [allD]
theorem gAny_map (bs : List Bool) : gAny [.fz (.lst (bs.map .bl))] = .ok (.fz (.bl (bs.any id))) := by simp [allD]
theorem gLen_lst (ds : List D) : gLen [.fz (.lst ds)] = .ok (.fz (.int ds.length)) := rfl
theorem gLen_tup (ds : List D) : gLen [.fz (.tup ds)] = .ok (.fz (.int ds.length)) := rfl
theorem gLen_scr (ds : List Int) : gLen [.fz (.scr ds)] = .ok (.fz (.int ds.length)) := rfl
theorem gLen_ow (n : Bool) (ds : List D) : gLen [.ow n (.lst ds)] = .ok (.fz (.int ds.length)) := rfl
abbrev mk (l : List Nat) : Str := ⟨l.toArray⟩
theorem mk_len (l : List Nat) : (mk l).length = l.length := by simp [Str.length]
theorem mk_of (s : Str) : mk s.cps.toList = s := by cases s; simp [mk]
theorem gLen_mk (l : List Nat) (h : l.length ≤ 16777216) : gLen [.fz (.str (mk l))] = .ok (.fz (.int l.length)) := by
  have hz : l.length ≤ sizeLine := size_big h
  simp [lenD, hz, mk_len]
theorem items_mk (l : List Nat) : items (.str (mk l)) = .ok (l.map fun c => .str ⟨#[c]⟩) := by simp
theorem in_sign (c : Nat) (l : List Nat) : opIn (.fz (.str ⟨#[c]⟩)) (.fz (.str (mk l))) = .ok (.fz (.bl (decide (c ∈ l)))) := by simp [opIn, inD]
theorem ni_sign (c : Nat) (l : List Nat) : opNi (.fz (.str ⟨#[c]⟩)) (.fz (.str (mk l))) = .ok (.fz (.bl (!decide (c ∈ l)))) := by simp [opNi, inD]
theorem ix0_mk (c : Nat) (r : List Nat) (h : (c :: r).length ≤ 16777216) : opIx (.fz (.str (mk (c :: r)))) (.fz (.int 0)) = .ok (.fz (.str ⟨#[c]⟩)) := by
  have hz : (mk (c :: r)).length ≤ sizeLine := by rw [mk_len]; exact size_big h
  simp [opIx, ixD, hz, atI, ixN]
theorem ix_lst (ds : List D) (i : Nat) (d : D) (h : ds[i]? = some d) : opIx (.fz (.lst ds)) (.fz (.int i)) = .ok (.fz d) := by
  simp [opIx, ixD, atI_nat h]
theorem ix_ow (n : Bool) (ds : List D) (i : Nat) (d : D) (h : ds[i]? = some d) : opIx (.ow n (.lst ds)) (.fz (.int i)) = .ok (.fz d) := by
  simp [opIx, ixD, atI_nat h]
theorem ix_tup (ds : List D) (i : Nat) (d : D) (h : ds[i]? = some d) : opIx (.fz (.tup ds)) (.fz (.int i)) = .ok (.fz d) := by
  simp [opIx, ixD, atI_nat h]
theorem ix_scr (ns : List Int) (i : Nat) (n : Int) (h : ns[i]? = some n) : opIx (.fz (.scr ns)) (.fz (.int i)) = .ok (.fz (.int n)) := by
  simp [opIx, ixD, atI_nat h]
theorem ix_mk (l : List Nat) (i : Nat) (c : Nat) (hl : l.length ≤ 16777216) (h : l[i]? = some c) : opIx (.fz (.str (mk l))) (.fz (.int i)) = .ok (.fz (.str ⟨#[c]⟩)) := by
  have hz : (mk l).length ≤ sizeLine := by rw [mk_len]; exact size_big hl
  have e := atI_nat (xs := l) h
  simp [opIx, ixD, hz, e]
def joinL (sep : List Nat) : List (List Nat) → List Nat
  | [] => []
  | [x] => x
  | x :: y :: r => x ++ sep ++ joinL sep (y :: r)
theorem mk_app (a b : List Nat) : mk a ++ mk b = mk (a ++ b) := by
  show Str.mk ((mk a).cps ++ (mk b).cps) = _
  simp [mk]
theorem join_mk (sep : List Nat) (ls : List (List Nat)) : Txt.join (mk sep) (ls.map mk) = mk (joinL sep ls) := by
  show Builtin.Str.glued (mk sep) (ls.map mk) = _
  rw [StrLaws.glued_eq_join]
  induction ls with
  | nil => rfl
  | cons x r ih =>
    cases r with
    | nil => rfl
    | cons y r =>
      rw [List.map_cons, List.map_cons] at *
      show mk x ++ mk sep ++ Str.join (mk sep) (mk y :: r.map mk) = _
      rw [ih, mk_app, mk_app]
      rfl
theorem joinL_one (l : List Nat) : joinL [] (l.map fun c => [c]) = l := by
  induction l with
  | nil => rfl
  | cons c r ih =>
    cases r with
    | nil => rfl
    | cons d r => show [c] ++ [] ++ joinL [] ((d :: r).map fun c => [c]) = _; rw [ih]; rfl
theorem gJoin_d {sep : List Nat} {b : EV} {ls : List (List Nat)} (hb : b.d = .lst (ls.map fun l => .str (mk l))) (hl : (ls.map List.length).sum + ls.length * sep.length ≤ 16777216) : gJoin (mk sep) b = .ok (.fz (.str (mk (joinL sep ls)))) := by
  have e : (ls.map fun l => D.str (mk l)) = (ls.map mk).map D.str := by rw [List.map_map]; rfl
  unfold gJoin
  rw [hb]
  dsimp only
  rw [e]
  unfold joinD
  rw [strsD_map]
  simp only [orStuck_some, Rz.ok_bind]
  rw [if_pos (by
    rw [List.map_map, show (Str.length ∘ mk) = List.length from funext mk_len, List.length_map, mk_len]
    exact hl), join_mk]
theorem gJoin_one {b : EV} {l : List Nat} (hb : b.d = .lst (l.map fun c => .str (mk [c]))) (hl : l.length ≤ 16777216) : gJoin (mk []) b = .ok (.fz (.str (mk l))) := by
  rw [gJoin_d (ls := l.map fun c => [c]) (by rw [hb, List.map_map]; rfl) (by
    have : ∀ l : List Nat, (List.map List.length (l.map fun c => [c])).sum = l.length := by
      intro l
      induction l with
      | nil => rfl
      | cons c r ih => rw [List.map_cons, List.map_cons, List.sum_cons, ih, List.length_cons, List.length_cons, List.length_nil]; omega
    rw [this, List.length_nil]
    omega), joinL_one]
theorem s_nil : ("" : Str) = mk [] := by decide +kernel
theorem opEq_d {a b : EV} {k : Bool} (h : eqD a.d b.d = some k) : opEq a b = .ok (.fz (.bl k)) := by
  unfold opEq; rw [h]; rfl
theorem opNe_d {a b : EV} {k : Bool} (h : eqD a.d b.d = some k) : opNe a b = .ok (.fz (.bl (!k))) := by
  unfold opNe; rw [h]; rfl
theorem opEq_bl (i j : Bool) : opEq (.fz (.bl i)) (.fz (.bl j)) = .ok (.fz (.bl (decide (i = j)))) := rfl
theorem opNe_bl (i j : Bool) : opNe (.fz (.bl i)) (.fz (.bl j)) = .ok (.fz (.bl (!decide (i = j)))) := rfl
theorem opEq_int (i j : Int) : opEq (.fz (.int i)) (.fz (.int j)) = .ok (.fz (.bl (decide (i = j)))) := rfl
theorem opNe_int (i j : Int) : opNe (.fz (.int i)) (.fz (.int j)) = .ok (.fz (.bl (!decide (i = j)))) := rfl
theorem opEq_str (i j : Str) : opEq (.fz (.str i)) (.fz (.str j)) = .ok (.fz (.bl (decide (i = j)))) := rfl
theorem opNe_str (i j : Str) : opNe (.fz (.str i)) (.fz (.str j)) = .ok (.fz (.bl (!decide (i = j)))) := rfl
theorem mk_inj {a b : List Nat} : mk a = mk b ↔ a = b := by
  constructor
  · intro h
    have h1 : (mk a).cps = (mk b).cps := by rw [h]
    simpa using h1
  · intro h; rw [h]
theorem ifV_T {t : Env → Rz Bool} {a b : Env → Rz EV} {env : Env} (h : t env = .ok true) : mIf t a b env = a env := by
  unfold mIf; rw [h]; rfl
theorem ifV_F {t : Env → Rz Bool} {a b : Env → Rz EV} {env : Env} (h : t env = .ok false) : mIf t a b env = b env := by
  unfold mIf; rw [h]; rfl
end DL
namespace DX
open PySem PySem.Spec PySem.W PyProof.Rows L2
section
open PySem.Calls
variable {prog : Program} {w : World} {A : Around} {E : Value → Shared → Prop} {h : Heap} {g : Array GenState} {d : Drawn} {t : Nat} {os : OsState}
variable {nm q : Str} {C N : Addr} {bs bm : List Value} {hdct : Bool} {sn : List Str} {sub : List Value} {ab : Bool} {col : Option Bool} {dd : Option Addr} {k0 k1 k2 k3 k5 : Option Value}
theorem call_mw {u e t0 : Addr} {rest : List Value} {Q : Value → Shared → Prop}
    (hC : h.get? C = some (excClassObj nm q C N bs bm hdct sn sub ab col dd k0 k1 k2 k3 k5 "ValueError.__new__")) (he : h.get? e = some (HandSPX.excO C t0)) (hu : h.get? u = some (kxs_mw "ValueError.__init__" e)) (hrest : rest.length ≤ sizeLine)
    (hq : ∀ h' t1, (∀ b o, b ≠ e → h.get? b = some o → h'.get? b = some o) → h'.get? e = some (HandSPX.excO C t1) → Q .none ⟨h', g, d, t, os⟩) :
    wpAny (model prog w) A (call (.ref u) rest) Q E ⟨h, g, d, t, os⟩ := by
  refine wpAny_call (codeAny_of_tree ?_)
  show wpAny _ A.in1 (callAny (.ref u) ⟨rest, []⟩) _ _ _
  simp only [callAny]
  refine wpAny_bind (wpAny_load hu ?_)
  simp only [kxs_mw, show (Value.type "method-wrapper" == Value.type "method" || Value.type "method-wrapper" == Value.type "builtin_function_or_method" || Value.type "method-wrapper" == Value.type "method-wrapper") = true by decide, if_true]
  refine KFB.if_so (by decide) ?_
  refine wpAny_bind (ESX.check_bound F.excBase_ValueError hC he rfl ?_)
  refine wpAny_bind (wpAny_pure (wpAny_pure ?_))
  refine ⟨Code.quiet_builtin _ (by decide +kernel), codeAny_builtin F.excBase_ValueError.initEntry ?_⟩
  rw [Around.under_plainId F.excBase_ValueError.init.plain _]
  wp_walk
  refine hq _ h.objs.size (fun b o hb ho => ?_) ?_
  · rw [Heap.get?_update_other _ _ (Ne.symm hb)]
    exact Heap.get?_push_of_some _ ho
  · rw [Heap.get?_update_self _ (Heap.get?_push_of_some _ he) rfl]
    rfl
end
def cxS (CX : CXT) (P : Program) (w : World) (K : PySem.W.Frag) (mg : Str → Option Value) (base : Heap) (N : List Str) (qual : Str) (scope : Scope) (f : Addr) (cd : Value) (cc : Addr) (A : Around) (outer : List Env) (s : Shared) (H : Hp) (E : XK) : Cx where
  prog := P
  w := w
  K := K
  mg := mg
  base := base
  A := A.deeper (ksEnv qual scope s.heap.objs.size f cd cc)
  N := N
  s_0 := s
  H_0 := H
  env := ksEnv qual scope s.heap.objs.size f cd cc
  outer := outer
  stack := ksEnv qual scope s.heap.objs.size f cd cc :: outer
  ex := []
  calm := true
  fn := fun x => x != "__class__"
  pn := []
  xe := fun e s' => wpAny (model P w) (A.deeper (ksEnv qual scope s.heap.objs.size f cd cc)) (leaving (ksEnv qual scope s.heap.objs.size f cd cc) e) (fun _ s'' => CX outer H s E e s'') (fun e' s'' => CX outer H s E e' s'') s'
structure SScope (ps : List Str) (sc : Scope) : Prop where
  kind : sc.kind = .function
  co : sc.isCoroutine = false
  gen : sc.isGenerator = false
  nd : ps.Nodup
  loc : ∀ x ∈ ps, sc.names.lookup x = some .local
  nocell : ∀ x ∈ sc.names, x.2 ≠ .cell
  free : ∀ x ∈ sc.names, x.2 = .free → x.1 = "__class__"
theorem lookup_rev {α : Type} : ∀ {ps : List Str} {us : List α} {i : Nat} {x : Str} {v : α}, ps.Nodup → ps[i]? = some x → us[i]? = some v → (ps.zip us).reverse.lookup x = some v
  | [], _, _, _, _, _, h, _ => by simp at h
  | _ :: _, [], _, _, _, _, _, h => by simp at h
  | p :: ps, u :: us, 0, x, v, nd, h1, h2 => by
    simp at h1 h2
    subst h1; subst h2
    rw [List.zip_cons_cons, List.reverse_cons, List.lookup_append]
    have e : (ps.zip us).reverse.lookup p = none := by
      cases q : (ps.zip us).reverse.lookup p with
      | none => rfl
      | some z =>
        have m := PySem.mem_of_lookup q
        exact absurd (List.of_mem_zip (List.mem_reverse.mp m)).1 (List.nodup_cons.mp nd).1
    rw [e]
    simp
  | p :: ps, u :: us, i + 1, x, v, nd, h1, h2 => by
    rw [List.zip_cons_cons, List.reverse_cons, List.lookup_append, lookup_rev (i := i) (List.nodup_cons.mp nd).2 (by simpa using h1) (by simpa using h2)]
    rfl
theorem inv_startS {CX : CXT} {P : Program} {w : World} {K : PySem.W.Frag} {mg : Str → Option Value} {base : Heap} {ps : List Str} {qual : Str} {scope : Scope} {f : Addr} {cd : Value} {cc : Addr} {A : Around} {outer : List Env} {s : Shared} {H : Hp} {E : XK} {us : List Value} {vs : List V} {h1 : Heap} {tk : Nat} {cl : Value} {cld : Option Addr} {cv : Option Value} {csl : Array (Option Value)}
    (S : SScope ps scope) (hd : A.handled = none) (e0 : Env0 P w K mg base A outer s H) (hl : vs.length = ps.length) (r : Vals vs us) (hcc : K.lookup cc = some ⟨cl, cld, .cell cv, csl⟩)
    (ns : h1.Ns s.heap.objs.size (fun x => (ps.zip us).reverse.lookup x)) (hk : ∀ b o, s.heap.get? b = some o → h1.get? b = some o) :
    Inv (cxS CX P w K mg base ps qual scope f cd cc A outer s H E) [] (vs.map some) H { s with heap := h1, toks := tk } := by
  have noA : ∀ b : Addr, b ∉ (cxS CX P w K mg base ps qual scope f cd cc A outer s H E).ex := fun b z => absurd (show b ∈ ([] : List Addr) from z) (by simp)
  have lc : ∀ {x : Str} {c : Addr}, ([("__class__", cc)] : List (Str × Addr)).lookup x = some c → x = "__class__" ∧ c = cc := fun {x c} z => by
    have m := PySem.mem_of_lookup z
    rw [List.mem_singleton] at m
    cases m
    exact ⟨rfl, rfl⟩
  refine ⟨⟨e0.mod, S.kind, rfl, rfl, Nat.le_refl _, fun y z c h1 h2 => ?_, fun y hy => ?_, fun y c hf h => ?_, fun _ => hd, Around.frames_deeper e0.frames, .inr ⟨rfl, rfl⟩, fun b z => absurd z (noA b), e0.bs, e0.bsz, fun b _ _ => noA b, fun b z => absurd z (noA b), e0.funs, e0.frf⟩,
    rfl, e0.bare, Un.kept hk, ⟨_, ns, fun i y v h1 h2 h3 => ?_⟩, fun y c h => ?_, e0.hok.fresh (Nat.le_refl _), fun y c h => ?_, fun p hp => absurd (show p ∈ ([] : List (Addr × Obj)) from hp) (by simp), e0.hok.kept hk, ?_⟩
  · exact (lc h1).1.trans (lc h2).1.symm
  · have hy : scope.names.lookup y = some .cell ∨ scope.names.lookup y = some .free := hy
    rcases hy with hy | hy
    · exact absurd rfl (S.nocell _ (PySem.mem_of_lookup hy))
    · have e : y = "__class__" := S.free _ (PySem.mem_of_lookup hy) rfl
      subst e
      exact ⟨cc, by show ([(("__class__" : Str), cc)] : List (Str × Addr)).lookup ("__class__" : Str) = some cc; simp⟩
  · have e := (lc h).1
    subst e
    exact absurd (show (("__class__" : Str) != ("__class__" : Str)) = true from hf) (by simp)
  · obtain ⟨u, hu, rv⟩ := r.get (i := i) (x := v) (by
      rw [List.getElem?_map] at h2
      cases e : vs[i]? with
      | none => rw [e] at h2; cases h2
      | some a => rw [e] at h2; cases h2; rfl)
    exact ⟨u, rv, .inl ⟨S.loc y (List.mem_of_getElem? h1), lookup_rev S.nd h1 hu⟩⟩
  · have e := (lc h).2
    subst e
    exact ⟨cv, _, hk _ _ ((e0.bs _ _ (e0.mod.kin _ _ hcc)).1), rfl⟩
  · have e := (lc h).2
    subst e
    exact (e0.bs _ _ (e0.mod.kin _ _ hcc)).2
  · rw [List.length_map]; exact hl
structure SupC (K : PySem.W.Frag) (C D : Addr) : Prop where
  oex : OexC K C
  sup : ks_superIn K C D "__init__" = some (some (.builtin "ValueError.__init__"))
  ve : subIn K (.ref C) (.type "ValueError") = some true
  mro : mroIn K C (.ref D) = some true
theorem super_stmt {X : Cx} {pins : List (Addr × Obj)} {σ : L2.St} {H : Hp} {s : Shared} {body : List Stmt} {f cc cda a C D : Addr} {oc ccl cl : Value} {od cdd cld : Option Addr} {osl ccs csl : Array (Option Value)} {fd : FuncData} {ar : Arg} {vs : Array Value} {file : Str} {tf : Tok} {cdD : ClassData}
    {e : Expr} {v : V} {p0 p1 ap pos ps : Pos} {Q : Flow → Shared → Prop} (I : Inv X pins σ H s) (gs : Gl X "super") (ms : X.mg "super" = none) (hkc : X.env.kindOf "__class__" = some .free) (hfu : X.env.func = some f) (hco : X.env.code = .ref cda)
    (hcell : X.env.cells.lookup ("__class__" : Str) = some cc) (lf : X.K.lookup f = some ⟨oc, od, .func fd, osl⟩) (hp : (fd.params.posonlyargs ++ fd.params.args).head? = some ar) (la : X.K.lookup cda = some ⟨ccl, cdd, .fields vs, ccs⟩) (hvs : vs[2]? = some (.str file tf)) (hfile : ((X.prog.main.file : Str) == file) = true)
    (htop : (X.prog.main.scope.names.lookup ("super" : Str)).isSome = false) (lcc : X.K.lookup cc = some ⟨cl, cld, .cell (some (.ref D)), csl⟩) (hD : clsIn X.K D = some cdD) (T : SupC X.K C D) (ho : nsIn X.K cStatics "thirdparty.any" = some none)
    (hN : X.N[0]? = some ar.arg) (hv : X.env.kindOf ar.arg = some .local) (hσ : σ[0]? = some (some (.ref a))) (ha : H a = some (exo a C none)) (he : PE X e (tC v))
    (h : ∀ s', Inv X pins σ H s' → Q .next s')
    (hi : interactive X.env = false := by rfl) (hsw : swapsWith (.Call (.Attribute (.Call (.Name "super" p0) [] [] p1) "__init__" ap) [e] [] pos) none ps.line X.env = pure false := by rfl)
    (hst : starEach [e] X.env = [(false, eval e X.env)] := by rfl) {pl : Sem Bool}
    (hcall : eval (.Call (.Attribute (.Call (.Name "super" p0) [] [] p1) "__init__" ap) [e] [] pos) X.env = (do
      let ov ← attributeBase (.Call (.Name "super" p0) [] [] p1) "__init__" X.env (eval (.Call (.Name "super" p0) [] [] p1) X.env)
      standAt ap.atName
      let (f, first) ← holding [ov] (getMethod ov "__init__" pl)
      callWith pos f first (backTo pos (starEach [e] X.env)) []) := by rfl) :
    _root_.PySem.wpAt (model X.prog X.w) X.A (.func body X.env) (exec (.Expr (.Call (.Attribute (.Call (.Name "super" p0) [] [] p1) "__init__" ap) [e] [] pos) ps) X.env) Q X.xe s := by
  obtain ⟨nm, q, N, bs, bm, sn, sub, ab, col, dd, k0, k1, k2, k3, k5, hC, hbm⟩ := T.oex.cls
  refine ks_wpAt_Expr_any (ks_wpAt_MethodCall (pl := pl) ?_ hcall) hi hsw
  · obtain ⟨mb, b1, b2⟩ := I.mod.blt
    obtain ⟨m, hn, hl⟩ := I.loc
    obtain ⟨u, ru, l⟩ := hl 0 ar.arg (.ref a) hN hσ (.inl hv)
    obtain rfl : u = Value.ref a := ru
    have hm : m ar.arg = some (.ref a) := by
      rcases l with ⟨_, z⟩ | ⟨z, _⟩
      · exact z
      · rw [hv] at z; rcases z with z | z <;> cases z
    obtain ⟨oD, hD1, hD2⟩ : ∃ oD, s.heap.get? D = some oD ∧ oD.data = .cls cdD := by
      unfold clsIn at hD
      split at hD
      · rename_i c d cd' sl ho'
        cases hD
        exact ⟨_, I.kIn _ _ ho', rfl⟩
      · cases hD
    obtain ⟨t1, hx⟩ := exo_at I.hok ha
    have IA : InstAt s.heap a { cls := .ref C, dict := none, data := .fields #[.ref t1, .none, .none, .none, .bool false, .none] } C none := ⟨hx, rfl, rfl, trivial⟩
    obtain ⟨cdC, hcl⟩ : ∃ cdC, clsIn X.K C = some cdC := by
      have z := T.sup
      unfold ks_superIn at z
      cases q : clsIn X.K C with
      | none => rw [q] at z; cases z
      | some c => exact ⟨c, rfl⟩
    have hxC : a ≠ C := ks_ne I.kIn IA hcl
    refine ks_wpAt_super_base gs hkc (by decide) hfu (I.kIn _ _ lf) rfl hp hco (I.kIn _ _ la) rfl hvs hfile htop ?_
    refine ks_loadName_global I.ok.kind gs (Calls.loadGlobal_builtin (by rw [I.ok.glob]; exact I.mod.glob.keeps I.bk) ms (by rw [I.ok.blt]; exact b1.keeps I.bk) ((b2 _ (by decide +kernel)).trans (by first | rfl | kernel_rfl)) ⟨rfl, ?_⟩)
    refine wpAny_loadName_free I.ok.kind hkc hcell ⟨_, I.kIn _ _ lcc, rfl⟩ ?_
    refine wpAny_loadName_local I.ok.kind hv hn hm ?_
    refine ks_wpAny_isType_cls hD1 hD2 ⟨rfl, ?_⟩
    obtain ⟨hh, g, d, t, os⟩ := s
    refine ks_wpAny_call_super hD1 hD2 hx rfl (fun c => by simp) (looks_mroIn I.kIn T.mro) (fun h2 e2 k2 => ?_)
    have I2 : Inv X ((hh.objs.size, ks_superObj D a C) :: pins) σ H { (⟨hh, g, d, t, os⟩ : Shared) with heap := h2, toks := t } := ClX.pin_new I k2 (Nat.le_refl _) e2 (fun v => by simp)
    refine kxs_getMethod kxs_ValueError e2 (looks_opaque I2.kIn ho) (l₀ := cdC.mro) (fun A Q E s k q => wpAny_bind ((looks_clsIn I2.kIn hcl) A _ E s k (wpAny_pure q))) rfl I2.kIn ?_ ?_ hxC (by decide) ?_
    · have z := T.sup
      unfold ks_superIn at z
      rw [hcl] at z
      exact z
    · have IA2 : InstAt h2 a { cls := .ref C, dict := none, data := .fields #[.ref t1, .none, .none, .none, .bool false, .none] } C none := ⟨k2 _ _ hx, rfl, rfl, trivial⟩
      exact IA2.type.andThen (looks_subIn I2.kIn T.ve)
    · have I3 : Inv X ((h2.objs.size, kxs_mw "ValueError.__init__" a) :: (hh.objs.size, ks_superObj D a C) :: pins) σ H { (⟨h2, g, d, t, os⟩ : Shared) with heap := h2.push (kxs_mw "ValueError.__init__" a), toks := t + 1 } :=
        ClX.pin_new I2 (fun b o z => Heap.get?_push_of_some _ z) (Nat.le_refl _) (Heap.get?_push_size _ rfl) (fun v => by simp)
      have hst' : starEach [e] X.env = (false, eval e X.env) :: starEach [] X.env := by rw [hst]; rfl
      dsimp only
      rw [hst']
      refine kxs_callWith (i := "ValueError.__init__") (x := a) rfl (Calls.evalArgs_plain ?_)
      show wpAny _ _ (spliced (backTo pos ((false, eval e X.env) :: starEach [] X.env))) _ _ _
      rw [← hst']
      refine thn ((pa_cons he pa_nil hst').run pos _ _ σ H (fun vs H1 => vs = [v] ∧ H1 = H) I3 ⟨rfl, rfl⟩) fun us s4 ⟨vs4, H4, I4, r4, ev, eH⟩ => ?_
      subst ev
      subst eH
      refine ⟨(I4.pin _ (List.mem_append_right _ List.mem_cons_self)).1, ?_⟩
      obtain ⟨t4, ho4⟩ := exo_at I4.hok ha
      have hu4 := (I4.pin _ (List.mem_append_right _ List.mem_cons_self)).1
      have hlen : us.length ≤ sizeLine := by
        rw [← Paired.length r4, sizeLine_eq]
        exact (show 1 ≤ 16777216 by decide)
      obtain ⟨hp4, g4, d4, tk4, os4⟩ := s4
      refine call_mw (I4.kIn _ _ hC) ho4 hu4 hlen fun h' t5 k hx' => ?_
      have J := I4.write (t' := tk4) (x := a) (e := a) (o := exo a C none) (by rw [ha]; exact True.intro) (.inl rfl) k ⟨_, hx'⟩ (exo_ok hx')
      have eu : upd H4 a (exo a C none) = H4 := by
        funext b
        by_cases hb : b = a
        · rw [hb, upd_same, ha]
        · rw [upd_ne hb]
      rw [eu] at J
      exact h _ (ClX.unpin (ClX.unpin J))
structure FunS (P : Program) (K : PySem.W.Frag) (qual : Str) (params : Arguments) (body : List Stmt) (scope : Scope) (D f : Addr) (fd : FuncData) : Prop where
  ex : ∃ (oc : Value) (od : Option Addr) (kV doc pm : Value) (an : Option Addr) (cda : Addr) (ct : Value) (osl : Array (Option Value)) (cc : Addr) (cl : Value) (cld : Option Addr) (csl : Array (Option Value)) (ccl : Value) (cdd : Option Addr) (vs : Array Value) (ccs : Array (Option Value)) (file : Str) (tf : Tok),
    fd = ksFn "__init__" qual params body scope .none kV doc pm an (.ref cda) ct cc ∧ K.lookup f = some ⟨oc, od, .func fd, osl⟩ ∧ codeIn K (.ref cda) qual = true ∧ K.lookup cc = some ⟨cl, cld, .cell (some (.ref D)), csl⟩ ∧
    K.lookup cda = some ⟨ccl, cdd, .fields vs, ccs⟩ ∧ vs[2]? = some (.str file tf) ∧ ((P.main.file : Str) == file) = true
  kp : keepIn K (.ref f) = true
  cls : ∃ cd, clsIn K D = some cd
  st : nsIn K cStatics "thirdparty.any" = some none
theorem fn_super {P : Program} {w : World} {K : PySem.W.Frag} {mg : Str → Option Value} {base : Heap} {CX : CXT} {k : Nat} {qual : Str} {params : Arguments} {rest : List Stmt} {scope : Scope} {D f : Addr} {fd : FuncData} {p0 p1 ap pos pst : Pos} {e : Expr} {v : V} {ps : List Str} {ar : Arg} {t : TS}
    (F : FunS P K qual params (.Expr (.Call (.Attribute (.Call (.Name "super" p0) [] [] p1) "__init__" ap) [e] [] pos) pst :: rest) scope D f fd) (S : SScope ps scope) (hp : (params.posonlyargs ++ params.args).head? = some ar) (hN : ps[0]? = some ar.arg)
    (gs : scope.names.lookup ("super" : Str) = some .globalImplicit) (hkc : scope.names.lookup ("__class__" : Str) = some .free) (ms : mg "super" = none) (htop : (P.main.scope.names.lookup ("super" : Str)).isSome = false)
    (he : ∀ (cda cc : Addr) (A : Around) (outer : List Env) (s : Shared) (H : Hp) (E : XK), PE (cxS CX P w K mg base ps qual scope f (.ref cda) cc A outer s H E) e (tC v))
    (hrest : ∀ (cda cc : Addr) (A : Around) (outer : List Env) (s : Shared) (H : Hp) (E : XK), PSs (cxS CX P w K mg base ps qual scope f (.ref cda) cc A outer s H E) rest t) {pl : Sem Bool}
    (hrow : ∀ (cda cc L : Addr), interactive (ksEnv qual scope L f (.ref cda) cc) = false ∧ swapsWith (.Call (.Attribute (.Call (.Name "super" p0) [] [] p1) "__init__" ap) [e] [] pos) none pst.line (ksEnv qual scope L f (.ref cda) cc) = pure false ∧ starEach [e] (ksEnv qual scope L f (.ref cda) cc) = [(false, eval e (ksEnv qual scope L f (.ref cda) cc))] ∧
      eval (.Call (.Attribute (.Call (.Name "super" p0) [] [] p1) "__init__" ap) [e] [] pos) (ksEnv qual scope L f (.ref cda) cc) = (do
        let ov ← attributeBase (.Call (.Name "super" p0) [] [] p1) "__init__" (ksEnv qual scope L f (.ref cda) cc) (eval (.Call (.Name "super" p0) [] [] p1) (ksEnv qual scope L f (.ref cda) cc))
        standAt ap.atName
        let (f', first) ← holding [ov] (getMethod ov "__init__" pl)
        callWith pos f' first (backTo pos (starEach [e] (ksEnv qual scope L f (.ref cda) cc))) [])) :
    FnOk P w K mg base CX (k + 1) f fd ps (fun vs H Q _ => vs.length = ps.length ∧ ∃ (C a : Addr), vs[0]? = some (.ref a) ∧ SupC K C D ∧ H a = some (exo a C none) ∧ t { nx := fun _ H' => Q .non H', rt := Q } (vs.map some) H) := by
  refine ⟨fun vs H Q E z => z.1, fun A outer s H args us vs Q E hr e0 hb r ⟨hl, C, a, h0, T, ha, hq⟩ => ?_⟩
  obtain ⟨oc, od, kV, doc, pm, an, cda, ct, osl, cc, cl, cld, csl, ccl, cdd, cvs, ccs, file, tf, rfl, lf, hcd, lcc, la, hvs, hfile⟩ := F.ex
  obtain ⟨cdD, hD⟩ := F.cls
  have KX : K.In s.heap := e0.mod.kin.keeps fun b o e => (e0.bs b o e).1
  have lim : s.heap.NoLimit := e0.mod.nolimit.keeps fun b o e => (e0.bs b o e).1
  refine ks_codeAny_call_defAt hr.depth (KX _ _ lf) rfl lim (codeRec_of KX hcd) rfl hb S.nocell (fun y hy => S.loc y.1 (List.of_mem_zip hy).1) (fun h₀ ns hk => ?_) S.co S.gen S.kind
  have I : Inv (cxS CX P w K mg base ps qual scope f (.ref cda) cc A outer s H E) [] (vs.map some) H { s with heap := h₀, toks := s.toks + (ps.zip us).length } := inv_startS S hr.hd e0 hl r lcc ns hk
  have hv : scope.names.lookup ar.arg = some .local := S.loc _ (List.mem_of_getElem? hN)
  obtain ⟨r1, r2, r3, r4⟩ := hrow cda cc s.heap.objs.size
  refine ks_wpAt_execs_cons ?_
  refine super_stmt (X := cxS CX P w K mg base ps qual scope f (.ref cda) cc A outer s H E) I gs ms hkc rfl rfl (by show ([(("__class__" : Str), cc)] : List (Str × Addr)).lookup ("__class__" : Str) = some cc; simp) lf hp la hvs hfile htop lcc hD T F.st hN hv (by rw [List.getElem?_map, h0]; rfl) ha (he _ _ _ _ _ _ _) (fun s1 I1 => ?_) r1 r2 r3 r4
  refine wpAt_of_wpAny (wpAny_mono ((hrest cda cc A outer s H E).run [] s1 (vs.map some) H _ I1 hq) (fun fl s' hs => ?_) fun e s' hs => hs)
  have fin : ∀ {σ' : L2.St} {H' : Hp} {v : V} {u : Value}, Inv (cxS CX P w K mg base ps qual scope f (.ref cda) cc A outer s H E) [] σ' H' s' → RelV v u → Q v H' → CE outer P w H s Q u s' :=
    fun {σ' H' v u} J rv q => ⟨v, H', J.os, J.bare, J.base, J.hok, rv, q⟩
  cases fl with
  | ret u =>
    obtain ⟨v, σ', H', J, rv, q⟩ := hs
    exact fin J rv q
  | next =>
    obtain ⟨σ', H', J, q⟩ := hs
    exact fin (v := V.non) (u := Value.none) J rfl q
  | brk =>
    obtain ⟨_, _, _, q⟩ := hs
    exact False.elim q
  | cont =>
    obtain ⟨_, _, _, q⟩ := hs
    exact False.elim q
end DX
namespace DL
open PySem PySem.Spec PyProof.Rows L2
def spX (Ca : Addr) (fs : List Str) : Sp := fun vs H Q _ => ∃ (a : Addr) (ws : List V), vs = .ref a :: ws ∧ ws.length = fs.length ∧ H a = some (exo a Ca none) ∧
  ∀ dx, H dx = none → dx ≠ a → Q .non (upd (upd H dx (exd dx (fs.zip ws).reverse)) a (exo a Ca (some dx)))
def ExG (P : Program) (w : World) (K : KC) (mg : Str → Option Value) (base : Heap) (k : Nat) (x : Str) (fs : List Str) : Prop :=
  ∃ (Ca fI : Addr) (fd : FuncData) (ps : List Str), mg x = some (.ref Ca) ∧ K.C.cls x = some Ca ∧ OexC K.K Ca ∧ PySem.W.findIn K.K (.ref Ca) "__init__" = some (some (.ref fI)) ∧ PySem.W.typeIn K.K (.ref fI) = some (.type "function") ∧
    FnOk P w K.K mg base (L2.CX P w) k fI fd ps (spX Ca fs) ∧ Binds K.K fd ps []
def mRaise (x : Str) (fs : List Str) (m : Env → Rz (List EV)) : Env → Out := fun env => match m env with
  | .ok evs => (match allFz evs with
    | some ds => if ds.length = fs.length then .exc ⟨x, (fs.zip ds).reverse⟩ env else .stuck
    | none => .stuck)
  | .exc e => .exc e env
  | .stuck => .stuck
theorem RepF.append {K : KC} {G : Hp} : ∀ {vs us : List (Str × V)} {ds es : List (Str × D)}, RepF K G vs ds → RepF K G us es → RepF K G (vs ++ us) (ds ++ es)
  | _, _, _, _, .nil, s => s
  | _, _, _, _, .cons a b, s => .cons a (b.append s)
theorem RepF.zipR {K : KC} {G : Hp} : ∀ {fs : List Str} {vs : List V} {ds : List D}, Reps K G vs ds → RepF K G (fs.zip vs).reverse (fs.zip ds).reverse
  | [], _, _, _ => .nil
  | _ :: _, _, _, .nil => .nil
  | f :: fs, _, _, .cons a b => by
    rw [List.zip_cons_cons, List.zip_cons_cons, List.reverse_cons, List.reverse_cons]
    exact (RepF.zipR b).append (.cons a .nil)
section
variable {X : Cx} {C : CT} {W : WX}
theorem ds_raise {k : Nat} {x : Str} {fs : List Str} {p pos pos2 : Pos} {e : Expr} {es : List Expr} {m : Env → Rz (List EV)} (EG : ExG X.prog X.w (kc X C) X.mg X.base k x fs) (hr : Room (k + 1) X.A) (tk : Takes X W) (ha : DA X C W (e :: es) m)
    (hc : X.calm = true := by rfl) (hfs : fs.length ≤ 1000 := by decide) (hg : Gl X x := by rfl) (hdb : (x == ("__debug__" : Str)) = false := by decide) (he : starEach (e :: es) X.env = (false, eval e X.env) :: starEach es X.env := by rfl) (hpl : (backTo pos (starEach es X.env)).any (·.1) = false := by rfl) :
    DS X C W (.Raise (some (.Call (.Name x p) (e :: es) [] pos)) none pos2) (mRaise x fs m) := by
  obtain ⟨Ca, fI, fd, ps, hm, hC, T, iC, tI, FO, hb⟩ := EG
  refine ⟨PS.imp (ps_raise hc tk (pmk_oex (CX := L2.CX X.prog X.w) T iC tI FO hr hb .nil (passes_call tk fun _ _ _ _ z => z.elim) hg hm ha.pa hdb he hpl)) fun D σ H ⟨Z, G, env, er, q⟩ => ?_⟩
  unfold mRaise at q
  refine ⟨Z, G, env, er, ?_⟩
  cases hq : m env with
  | stuck => rw [hq] at q; exact q.elim
  | exc e =>
    rw [hq] at q
    exact fun cls d G' H' xx k => q σ H' G' cls d xx.g (er.ext xx) k
  | ok evs =>
    rw [hq] at q
    dsimp only at q
    intro vs G1 H1 x1 va
    cases hz : allFz evs with
    | none => rw [hz] at q; exact q.elim
    | some ds =>
      rw [hz] at q
      dsimp only at q
      by_cases hl : ds.length = fs.length
      · rw [if_pos hl] at q
        have rr := allFz_ok hz va
        have lv : vs.length = fs.length := rr.length.trans hl
        refine ⟨by omega, fun a ha => ⟨a, vs, by rw [List.append_nil], lv, upd_same, fun dx hdx hne => ⟨rfl, dx, (fs.zip vs).reverse, upd_same, ?_, ?_, ?_⟩⟩⟩
        · rw [upd_ne hne, upd_same]
        · rw [upd_ne hne] at hdx; exact hdx
        · have hd1 : H1 dx = none := by rw [upd_ne hne] at hdx; exact hdx
          have eH : upd (del (upd (upd (upd H1 a (exo a Ca none)) dx (exd dx (fs.zip vs).reverse)) a (exo a Ca (some dx))) a) dx (.xd (fs.zip vs).reverse) = upd H1 dx (.xd (fs.zip vs).reverse) := by
            funext b
            by_cases hb1 : b = dx
            · rw [hb1, upd_same, upd_same]
            · rw [upd_ne hb1, upd_ne hb1]
              by_cases hb2 : b = a
              · rw [hb2, del_same, ha]
              · rw [del_ne hb2, upd_ne hb2, upd_ne hb1, upd_ne hb2]
          rw [eH]
          have xe := x1.trans (Ext.lay2 (o := .xd (fs.zip vs).reverse) x1.s hd1)
          refine q σ _ _ (.ref Ca) (some dx) xe.g (er.ext xe) ⟨Ca, hC, rfl, .inr ⟨dx, _, rfl, upd_same, ?_⟩⟩
          exact (RepF.zipR rr).mono (.upd (x1.s.none hd1))
      · rw [if_neg hl] at q; exact q.elim
end
section
variable {K K' : KC}
mutual
theorem Rep.cx (h1 : K.K = K'.K) (h2 : K.C.cls = K'.C.cls) {G : Hp} : ∀ {v : V} {d : D}, Rep K G v d → Rep K' G v d
  | _, _, .non => .non
  | _, _, .bl b => .bl b
  | _, _, .int i => .int i
  | _, _, .str x => .str x
  | _, _, .ty n => .ty n
  | _, _, .cls e => .cls (h2 ▸ e)
  | _, _, .tup s r => .tup (h1 ▸ s) (Reps.cx h1 h2 r)
  | _, _, .lst s r => .lst s (Reps.cx h1 h2 r)
  | _, _, .scr s => .scr (h1 ▸ s)
  | _, _, .dk s r => .dk s (RepK.cx h1 h2 r)
  | _, _, .dt s r => .dt s (RepT.cx h1 h2 r)
  | _, _, .ins c s r => .ins (h2 ▸ c) s (RepF.cx h1 h2 r)
theorem Reps.cx (h1 : K.K = K'.K) (h2 : K.C.cls = K'.C.cls) {G : Hp} : ∀ {v : List V} {d : List D}, Reps K G v d → Reps K' G v d
  | _, _, .nil => .nil
  | _, _, .cons a b => .cons (Rep.cx h1 h2 a) (Reps.cx h1 h2 b)
theorem RepF.cx (h1 : K.K = K'.K) (h2 : K.C.cls = K'.C.cls) {G : Hp} : ∀ {v : List (Str × V)} {d : List (Str × D)}, RepF K G v d → RepF K' G v d
  | _, _, .nil => .nil
  | _, _, .cons a b => .cons (Rep.cx h1 h2 a) (RepF.cx h1 h2 b)
theorem RepK.cx (h1 : K.K = K'.K) (h2 : K.C.cls = K'.C.cls) {G : Hp} : ∀ {v : List (Key × V)} {d : List (D × D)}, RepK K G v d → RepK K' G v d
  | _, _, .nil => .nil
  | _, _, .cons a b => .cons (Rep.cx h1 h2 a) (RepK.cx h1 h2 b)
theorem RepT.cx (h1 : K.K = K'.K) (h2 : K.C.cls = K'.C.cls) {G : Hp} : ∀ {v : List (List Key × V)} {d : List (D × D)}, RepT K G v d → RepT K' G v d
  | _, _, .nil => .nil
  | _, _, .cons a b => .cons (Rep.cx h1 h2 a) (RepT.cx h1 h2 b)
end
theorem WOk.cx (h1 : K.K = K'.K) (h2 : K.C.cls = K'.C.cls) (h3 : ∀ p, K.C.slf = Option.some p → K'.C.slf = Option.some p) {G H : Hp} {p : Addr} {w : OW} (x : WOk K G H p w) : WOk K' G H p w := by
  cases w with
  | lst ds => obtain ⟨vs, e, r⟩ := x; exact ⟨vs, e, r.cx h1 h2⟩
  | dct t ds =>
    cases t with
    | false => obtain ⟨vs, e, r⟩ := x; exact ⟨vs, e, r.cx h1 h2⟩
    | true => obtain ⟨vs, e, r⟩ := x; exact ⟨vs, e, r.cx h1 h2⟩
  | ins c ds => obtain ⟨Ca, dx, vs, q, e, r⟩ := x; exact ⟨Ca, dx, vs, h2 ▸ q, e, r.cx h1 h2⟩
  | self c ds => obtain ⟨z, Ca, dx, vs, q, e, r⟩ := x; exact ⟨h3 _ z, Ca, dx, vs, h2 ▸ q, e, r.cx h1 h2⟩
theorem EVok.cx (h1 : K.K = K'.K) (h2 : K.C.cls = K'.C.cls) (h3 : ∀ p, K.C.slf = some p → K'.C.slf = some p) {Z : Ent} {Hs G H : Hp} {v : V} {ev : EV} (x : EVok K Z Hs G H v ev) : EVok K' Z Hs G H v ev := by
  cases ev with
  | fz d => exact Rep.cx h1 h2 x
  | ow n w => obtain ⟨p, e, a, b⟩ := x; exact ⟨p, e, a.cx h1 h2 h3, b⟩
theorem ExcOk.cx (h1 : K.K = K'.K) (h2 : K.C.cls = K'.C.cls) {G H : Hp} {cls : Value} {d : Option Addr} {e : Exn} (x : ExcOk K G H cls d e) : ExcOk K' G H cls d e := by
  obtain ⟨a, q1, q2, q3⟩ := x
  refine ⟨a, h2 ▸ q1, q2, ?_⟩
  rcases q3 with q3 | ⟨dd, fs, q4, q5, q6⟩
  · exact .inl q3
  · exact .inr ⟨dd, fs, q4, q5, q6.cx h1 h2⟩
theorem ER.cx (h1 : K.K = K'.K) (h2 : K.C.cls = K'.C.cls) (h3 : ∀ p, K.C.slf = some p → K'.C.slf = some p) (hn : K.C.ex = none) {Z : Ent} {G H : Hp} {σ : L2.St} {env : Env} (er : ER K Z G H σ env) : ER K' Z G H σ env :=
  ⟨er.len, er.zg, er.zh, er.zzz, er.sub, er.new, (fun i x e => by
    obtain ⟨v, q1, q2⟩ := er.at' i x e
    refine ⟨v, q1, ?_⟩
    cases x with
    | no => trivial
    | val d => obtain ⟨u, q3, q4⟩ := q2; exact ⟨u, q3, q4.cx h1 h2⟩
    | own w => obtain ⟨u, q3, q4⟩ := q2; exact ⟨u, q3, q4.cx h1 h2 h3⟩
    | exn e => obtain ⟨a, Ca, d, q3, _⟩ := q2; rw [hn] at q3; cases q3), er.own, er.dis⟩
def unX : SL → SL
  | .exn _ => .no
  | x => x
theorem unX_own {x : SL} {v : Option V} {p : Addr} (h : (unX x).owns v p) : x.owns v p := by
  cases x with
  | exn e => obtain ⟨⟨w, z⟩, _⟩ := h; cases z
  | _ => exact h
theorem getMap {env : Env} {i : Nat} {x : SL} (e : (env.map unX)[i]? = some x) : ∃ y, env[i]? = some y ∧ x = unX y := by
  rw [List.getElem?_map] at e
  cases q : env[i]? with
  | none => rw [q] at e; cases e
  | some y => rw [q] at e; cases e; exact ⟨y, rfl, rfl⟩
theorem ER.unX (h1 : K.K = K'.K) (h2 : K.C.cls = K'.C.cls) (h3 : ∀ p, K.C.slf = some p → K'.C.slf = some p) {Z : Ent} {G H : Hp} {σ : L2.St} {env : Env} (er : ER K Z G H σ env) : ER K' Z G H σ (env.map DL.unX) :=
  ⟨by rw [List.length_map]; exact er.len, er.zg, er.zh, er.zzz, er.sub, er.new, fun i x e => by
    obtain ⟨y, e', rfl⟩ := getMap e
    obtain ⟨v, q1, q2⟩ := er.at' i y e'
    refine ⟨v, q1, ?_⟩
    cases y with
    | no => trivial
    | val d => obtain ⟨u, q3, q4⟩ := q2; exact ⟨u, q3, q4.cx h1 h2⟩
    | own w => obtain ⟨u, q3, q4⟩ := q2; exact ⟨u, q3, q4.cx h1 h2 h3⟩
    | exn e => trivial, fun i x v p e1 e2 o => by
    obtain ⟨y, e', rfl⟩ := getMap e1
    exact er.own i y v p e' e2 (unX_own o), fun i j x y v u p e1 e2 o1 e3 e4 o2 => by
    obtain ⟨x', e1', rfl⟩ := getMap e1
    obtain ⟨y', e3', rfl⟩ := getMap e3
    exact er.dis i j x' y' v u p e1' e2 (unX_own o1) e3' e4 (unX_own o2)⟩
theorem ER.setX {Z : Ent} {G H : Hp} {σ : L2.St} {env : Env} (er : ER K Z G H σ env) {i : Nat} {v : V} {e : Exn} (ok : SlotOk K G H (some v) (.exn e)) : ER K Z G H (σ.set i (some v)) (env.set i (.exn e)) := by
  have e0 : ER K Z G H (σ.set i (some v)) (env.set i .no) := er.setN
  have nb : ∀ {j : Nat} {x : SL} {v : Option V} {p : Addr}, (env.set i (.exn e))[j]? = some x → x.owns v p → (env.set i .no)[j]? = some x := fun {j x v p} e1 o => by
    by_cases hj : i = j
    · subst hj
      have hl : i < env.length := by
        have := (List.getElem?_eq_some_iff.mp e1).1
        simpa using this
      rw [List.getElem?_set_self hl] at e1
      cases e1
      obtain ⟨⟨w, z⟩, _⟩ := o
      cases z
    · rw [List.getElem?_set_ne hj] at e1 ⊢
      exact e1
  refine ⟨by simpa using er.len, er.zg, er.zh, er.zzz, er.sub, er.new, fun j x e1 => ?_, fun j x u p e1 e2 o => e0.own j x u p (nb e1 o) e2 o, fun j k x y u w p e1 e2 o1 e3 e4 o2 => e0.dis j k x y u w p (nb e1 o1) e2 o1 (nb e3 o2) e4 o2⟩
  by_cases hj : i = j
  · subst hj
    have hl : i < env.length := by
      have := (List.getElem?_eq_some_iff.mp e1).1
      simpa using this
    rw [List.getElem?_set_self hl] at e1
    cases e1
    exact ⟨_, List.getElem?_set_self (er.upTo hl), ok⟩
  · rw [List.getElem?_set_ne hj] at e1 ⊢
    exact er.at' j x e1
end
def fin (i : Nat) : Out → Out
  | .nx env => .nx ((env.map unX).set i .no)
  | .bk env => .bk ((env.map unX).set i .no)
  | .ct env => .ct ((env.map unX).set i .no)
  | .ret ev => .ret ev
  | _ => .stuck
def mTry (i : Nat) (S : Str → Option Bool) (mb ms : Env → Out) : Env → Out := fun env => match mb env with
  | .exc e env1 => (match S e.cls with
    | some true => fin i (ms (env1.set i (.exn e)))
    | some false => .exc e env1
    | none => .stuck)
  | o => o
abbrev W0x : WX := fun _ _ _ _ => False
section
variable {X : Cx} {C : CT} {W : WX}
theorem ds_try {i : Nat} {x n : Str} {c : Value} {S : Str → Option Bool} {b₀ : Stmt} {body suite : List Stmt} {np pos' pos : Pos} {mb ms : Env → Out} (hC : C.ex = none) (hs : X.stack = X.env :: X.outer) (hf : X.env.frame = some X.env.locals) (hN : X.N.Nodup) (hi : X.N[i]? = some n) (hln : X.env.kindOf n = some .local)
    (hc : Names X x c) (hS : ∀ (y : Str) (a : Addr) (b : Bool), S y = some b → C.cls y = some a → PySem.W.exmOne X.K (.ref a) c = some b) (tk : Takes X W)
    (hb : ∀ (W : WX) (pn : List (Addr × Obj)) (xe : Value → Shared → Prop), Takes (X.tr pn xe) W → PassesOwn (model X.prog X.w) X.A X.env xe → DSs (X.tr pn xe) C W body mb)
    (hsu : ∀ (a : Addr) (oe : Obj) (Ca : Addr) (d : Option Addr) (pn : List (Addr × Obj)), Zc (.ref Ca) d oe → (∃ vs, oe.data = .fields vs) → DSs (X.suite a ((a, oe) :: pn)) ⟨C.cls, some (a, Ca, d), C.slf⟩ W0x (b₀ :: suite) ms) :
    DS X C W (.Try body [.ExceptHandler (some (.Name x np)) (some n) (b₀ :: suite) pos'] [] [] pos) (mTry i S mb ms) := by
  refine ⟨PS.imp (ps_try_as (tb := fun W => tS (kc X C) W mb) (ts := fun a cls d => fun D σ H => ∃ Ca, cls = .ref Ca ∧ tS ⟨X.K, ⟨C.cls, some (a, Ca, d), C.slf⟩⟩ W0x ms D σ H) hs hf hN hi hln hc tk (fun W pn xe h1 h2 => (hb W pn xe h1 h2).pss) (fun a oe cls d pn hz hv => ⟨fun pins s σ H D I ⟨Ca, e, h⟩ => ?_⟩)) fun D σ H ⟨Z, G, env, er, q⟩ => ⟨Z, G, env, er, ?_⟩⟩
  · subst e
    exact (hsu a oe Ca d pn hz hv).pss.run pins s σ H D I h
  · unfold mTry at q
    cases hm : mb env with
    | nx e => rw [hm] at q; exact q
    | bk e => rw [hm] at q; exact q
    | ct e => rw [hm] at q; exact q
    | ret e => rw [hm] at q; exact q
    | stuck => rw [hm] at q; exact q.elim
    | exc e env1 =>
      rw [hm] at q
      dsimp only at q
      intro σ1 H1 G1 cls d sg er1 ko
      obtain ⟨Ca, k1, rfl, k3⟩ := id ko
      cases hSe : S e.cls with
      | none => rw [hSe] at q; exact q.elim
      | some b =>
        rw [hSe] at q
        refine ⟨b, hS _ _ _ hSe k1, fun hb1 a ha => ?_, fun hb0 => ?_⟩
        · subst hb1
          dsimp only at q
          have er2 : ER ⟨X.K, ⟨C.cls, some (a, Ca, d), C.slf⟩⟩ Z G1 H1 σ1 env1 := ER.cx (K := kc X C) (K' := ⟨X.K, ⟨C.cls, some (a, Ca, d), C.slf⟩⟩) rfl rfl (fun _ z => z) hC er1
          have ko2 : ExcOk ⟨X.K, ⟨C.cls, some (a, Ca, d), C.slf⟩⟩ G1 G1 (.ref Ca) d e := ExcOk.cx (K := kc X C) (K' := ⟨X.K, ⟨C.cls, some (a, Ca, d), C.slf⟩⟩) rfl rfl (ko.mono .refl)
          refine ⟨Ca, rfl, Z, G1, _, er2.setX ⟨a, Ca, d, rfl, rfl, ko2⟩, ?_⟩
          cases hq : ms (env1.set i (.exn e)) with
          | nx e3 =>
            rw [hq] at q
            exact fun σ3 H3 G3 s3 er3 => q _ _ _ (sg.trans s3) ((ER.unX (K := ⟨X.K, ⟨C.cls, some (a, Ca, d), C.slf⟩⟩) (K' := kc X C) rfl rfl (fun _ z => z) er3).setN)
          | bk e3 =>
            rw [hq] at q
            exact fun σ3 H3 G3 s3 er3 => q _ _ _ (sg.trans s3) ((ER.unX (K := ⟨X.K, ⟨C.cls, some (a, Ca, d), C.slf⟩⟩) (K' := kc X C) rfl rfl (fun _ z => z) er3).setN)
          | ct e3 =>
            rw [hq] at q
            exact fun σ3 H3 G3 s3 er3 => q _ _ _ (sg.trans s3) ((ER.unX (K := ⟨X.K, ⟨C.cls, some (a, Ca, d), C.slf⟩⟩) (K' := kc X C) rfl rfl (fun _ z => z) er3).setN)
          | ret ev =>
            rw [hq] at q
            exact fun σ3 env3 v H3 G3 Hs s3 er3 hz va => q _ _ v _ _ Hs (sg.trans s3) (ER.unX (K := ⟨X.K, ⟨C.cls, some (a, Ca, d), C.slf⟩⟩) (K' := kc X C) rfl rfl (fun _ z => z) er3) hz (EVok.cx (K := ⟨X.K, ⟨C.cls, some (a, Ca, d), C.slf⟩⟩) (K' := kc X C) rfl rfl (fun _ z => z) va)
          | exc e' env' => rw [hq] at q; exact q.elim
          | stuck => rw [hq] at q; exact q.elim
        · subst hb0
          dsimp only at q
          exact q σ1 H1 G1 _ d sg er1 ko
end
end DL
namespace DL
open PySem PySem.Spec PyProof.Rows L2
section
variable {X : Cx} {cl : Str → Option Addr} {sl : Option Addr} {W : WX} {a Ca : Addr} {oe : Obj} {d : Option Addr} {pn : List (Addr × Obj)}
def exAt (env : Env) (i : Nat) : Rz Exn := match env.getD i .no with
  | .exn e => .ok e
  | _ => .stuck
def mXf (i : Nat) (f : Str) : Env → Rz EV := fun env => exAt env i >>= fun e => orStuck (e.fs.lookup f) >>= fun x => .ok (.fz x)
def mIsE (i : Nat) (S : Str → Option Bool) : Env → Rz EV := fun env => exAt env i >>= fun e => orStuck (S e.cls) >>= fun b => .ok (.fz (.bl b))
theorem exAt_ok {env : Env} {i : Nat} {e : Exn} (h : exAt env i = .ok e) : env[i]? = some (.exn e) := by
  unfold exAt at h
  cases q : env.getD i .no with
  | exn e' => rw [q] at h; cases h; exact getD_some q (by simp)
  | no => rw [q] at h; cases h
  | val d => rw [q] at h; cases h
  | own w => rw [q] at h; cases h
theorem exAt_exc {env : Env} {i : Nat} {e : Exn} : exAt env i ≠ .exc e := by
  unfold exAt
  split <;> simp
theorem de_xf {i : Nat} {x n : Str} {p pos : Pos} (T : XfC X.K Ca) (hno : PySem.W.findIn X.K (.ref Ca) n = some none) (hz : Zc (.ref Ca) d oe) (hf : ∃ vs, oe.data = .fields vs)
    (hN : X.N[i]? = some x := by rfl) (hv : Vis X.env.scope x := by first | exact Or.inl rfl | exact Or.inr (Or.inl rfl) | exact Or.inr (Or.inr rfl)) (hd : (x == ("__debug__" : Str)) = false := by decide) (hcd : (x == ("__classdict__" : Str)) = false := by decide)
    (hb : attributeBase (.Name x p) n X.env (eval (.Name x p) X.env) = eval (.Name x p) X.env := by rfl) : DE (X.suite a ((a, oe) :: pn)) ⟨cl, some (a, Ca, d), sl⟩ W (.Attribute (.Name x p) n pos) (mXf i n) :=
  ⟨PE.imp (pe_xf (X := X) (pos := pos) T hno hz hf (pe_var (X := X.suite a ((a, oe) :: pn)) (i := i) hN hv hd hcd) hb) fun σ H Q ⟨Z, G, env, er, q⟩ => by
    unfold mXf at q
    cases he : exAt env i with
    | stuck => rw [he] at q; exact q.elim
    | exc e => exact absurd he exAt_exc
    | ok e =>
      rw [he] at q
      simp only [Rz.ok_bind] at q
      obtain ⟨v, h1, a', Ca', d', h2, rfl, h3⟩ := er.at' i _ (exAt_ok he)
      cases h2
      cases hl : e.fs.lookup n with
      | none => rw [hl] at q; exact q.elim
      | some y =>
        rw [hl] at q
        simp only [orStuck_some, Rz.ok_bind] at q
        obtain ⟨a2, k1, k2, k3⟩ := h3
        rcases k3 with ⟨k3, _⟩ | ⟨dd, fs, k4, k5, k6⟩
        · rw [k3] at hl; cases hl
        · obtain ⟨u, u1, u2⟩ := k6.look hl
          exact ⟨_, h1, rfl, rfl, dd, fs, u, k4, er.sub _ _ k5, u1, q u G H (.refl er.sub) u2⟩⟩
theorem call_isD (C : ExcC X.K Ca) (hz : Zc (.ref Ca) d oe) (hf : ∃ vs, oe.data = .fields vs) : CallR (X.suite a ((a, oe) :: pn)) (.builtin "isinstance") (fun xs H Q => ((d = none) ∨ ∃ dd fs, d = some dd ∧ H dd = some (.xd fs)) ∧ rIsE X.K Ca a xs H Q) := by
  intro pins s σ H xs us Q I r ⟨hd, c, cv, b, ex, hcv, e, q⟩
  subst ex
  obtain ⟨u1, u2, rfl, rx, rt⟩ : ∃ u1 u2, us = [u1, u2] ∧ RelV (.ref a) u1 ∧ RelV c u2 := by
    cases r with
    | cons rx rr => cases rr with
      | cons rt rr => cases rr; exact ⟨_, _, rfl, rx, rt⟩
  have e1 : u1 = Value.ref a := rx
  have e2 := hcv _ rt
  rw [e1, e2]
  have hget := (I.pin (a, oe) (List.mem_append.mpr (.inl List.mem_cons_self))).1
  obtain ⟨vs, hv⟩ := hf
  have J : ∃ od, PySem.W.InstAt s.heap a oe Ca od := by
    rcases hd with hd | ⟨dd, fs, hd, hx⟩
    · exact ⟨none, hget, hz.1, by unfold PySem.W.notCls; rw [hv] <;> rfl, by rw [hz.2, hd]; trivial⟩
    · obtain ⟨mA, ⟨od, es, ep, ho, _⟩, _⟩ := I.hok dd _ hx
      exact ⟨some od, hget, hz.1, by unfold PySem.W.notCls; rw [hv] <;> rfl, by rw [hz.2, hd]; exact ho⟩
  obtain ⟨od, J⟩ := J
  obtain ⟨cd, hcd, _⟩ := PySem.W.any_some C.hd
  exact PySem.W.kia_one (PySem.W.kitx_exc (by rw [hcd]; rfl) C.hg C.hk C.hs C.ha C.hn C.ht C.hm) I.kIn J e (fun z => nomatch z) fun tk => ⟨.bl b, H, I.kept (t' := tk) fun _ _ z => z, rfl, q⟩
theorem isE_go {i : Nat} {c : V} {cv : Value} {S : Str → Option Bool} {σ : L2.St} {H : Hp} {Q : VK} (hcv : ∀ u, RelV c u → u = cv) (hS : ∀ (y : Str) (b : Bool), S y = some b → cl y = some Ca → PySem.W.kitOne X.K (.ref Ca) cv = some b)
    (h : tE ⟨X.K, ⟨cl, some (a, Ca, d), sl⟩⟩ W (mIsE i S) σ H Q) : tCB (fun xs H Q => ((d = none) ∨ ∃ dd fs, d = some dd ∧ H dd = some (.xd fs)) ∧ rIsE X.K Ca a xs H Q) (tCons (tVar i) (tCons (tC c) tNil)) σ H Q := by
  obtain ⟨Z, G, env, er, q⟩ := h
  unfold mIsE at q
  cases he : exAt env i with
  | stuck => rw [he] at q; exact q.elim
  | exc e => exact absurd he exAt_exc
  | ok e =>
    rw [he] at q
    simp only [Rz.ok_bind] at q
    obtain ⟨v, h1, a', Ca', d', h2, rfl, h3⟩ := er.at' i _ (exAt_ok he)
    cases h2
    cases hl : S e.cls with
    | none => rw [hl] at q; exact q.elim
    | some b =>
      rw [hl] at q
      simp only [orStuck_some, Rz.ok_bind] at q
      obtain ⟨a2, k1, k2, k3⟩ := h3
      cases k2
      refine ⟨_, h1, ?_, c, cv, b, rfl, hcv, hS _ _ hl k1, q (.bl b) G H (.refl er.sub) (.bl b)⟩
      rcases k3 with ⟨_, k3⟩ | ⟨dd, fs, k4, k5, k6⟩
      · exact .inl k3
      · exact .inr ⟨dd, fs, k4, er.sub _ _ k5⟩
theorem de_isE {i : Nat} {x y : Str} {Cb : Addr} {S : Str → Option Bool} {p p1 p2 pos : Pos} (E : ExcC X.K Ca) (hz : Zc (.ref Ca) d oe) (hf : ∃ vs, oe.data = .fields vs) (hm : X.mg "isinstance" = none) (hy : X.mg y = some (.ref Cb)) (hS : ∀ (z : Str) (b : Bool), S z = some b → cl z = some Ca → PySem.W.kitOne X.K (.ref Ca) (.ref Cb) = some b)
    (hg : Gl X "isinstance" := by rfl) (hgy : Gl X y := by rfl) (hdy : (y == ("__debug__" : Str)) = false := by decide) (hN : X.N[i]? = some x := by rfl) (hv : Vis X.env.scope x := by first | exact Or.inl rfl | exact Or.inr (Or.inl rfl) | exact Or.inr (Or.inr rfl)) (hd : (x == ("__debug__" : Str)) = false := by decide) (hcd : (x == ("__classdict__" : Str)) = false := by decide) :
    DE (X.suite a ((a, oe) :: pn)) ⟨cl, some (a, Ca, d), sl⟩ W (.Call (.Name "isinstance" p) [.Name x p1, .Name y p2] [] pos) (mIsE i S) :=
  ⟨PE.imp (pe_callB (call_isD E hz hf) hg hm (by decide +kernel) (pa_cons (pe_var (X := X.suite a ((a, oe) :: pn)) (i := i) hN hv hd hcd) (pa_cons (pe_glob (X := X.suite a ((a, oe) :: pn)) hgy hy (v := .ref Cb) rfl hdy) pa_nil))) fun σ H Q h => isE_go (fun u r => r) hS h⟩
theorem de_isEb {i : Nat} {x y : Str} {T : String} {S : Str → Option Bool} {p p1 p2 pos : Pos} (E : ExcC X.K Ca) (hz : Zc (.ref Ca) d oe) (hf : ∃ vs, oe.data = .fields vs) (hm : X.mg "isinstance" = none) (hy : X.mg y = none) (hb : bootBuiltins y = some (.type T)) (hS : ∀ (z : Str) (b : Bool), S z = some b → cl z = some Ca → PySem.W.kitOne X.K (.ref Ca) (.type T) = some b)
    (hg : Gl X "isinstance" := by rfl) (hgy : Gl X y := by rfl) (hny : y ≠ "__name__" := by decide) (hdy : (y == ("__debug__" : Str)) = false := by decide) (hN : X.N[i]? = some x := by rfl) (hv : Vis X.env.scope x := by first | exact Or.inl rfl | exact Or.inr (Or.inl rfl) | exact Or.inr (Or.inr rfl)) (hd : (x == ("__debug__" : Str)) = false := by decide) (hcd : (x == ("__classdict__" : Str)) = false := by decide) :
    DE (X.suite a ((a, oe) :: pn)) ⟨cl, some (a, Ca, d), sl⟩ W (.Call (.Name "isinstance" p) [.Name x p1, .Name y p2] [] pos) (mIsE i S) :=
  ⟨PE.imp (pe_callB (call_isD E hz hf) hg hm (by decide +kernel) (pa_cons (pe_var (X := X.suite a ((a, oe) :: pn)) (i := i) hN hv hd hcd) (pa_cons (pe_bltn (X := X.suite a ((a, oe) :: pn)) hgy hy hb (v := .ty T) rfl hny hdy) pa_nil))) fun σ H Q h => isE_go (fun u r => r) hS h⟩
end
end DL
namespace DL
open PySem PySem.Spec PyProof.Rows L2
def spS (K : PySem.W.Frag) (D : Addr) (fs : List Str) : Sp := fun vs H Q E => ∃ C, DX.SupC K C D ∧ (∀ f ∈ fs, PySem.W.findIn K (.ref C) f = some none) ∧ spX C fs vs H Q E
abbrev spT (K : PySem.W.Frag) (D : Addr) (n : Nat) (t : TS) : Sp := fun vs H Q _ => vs.length = n ∧ ∃ (C a : Addr), vs[0]? = some (.ref a) ∧ DX.SupC K C D ∧ H a = some (exo a C none) ∧ t { nx := fun _ H' => Q .non H', rt := Q } (vs.map some) H
theorem spT_one {K : PySem.W.Frag} {D : Addr} {f : Str} (vs : List V) (H : Hp) (Q : VK) (E : XK) (h : spS K D [f] vs H Q E) : spT K D 2 (tOst K f (tVar 0) (tVar 1)) vs H Q E := by
  obtain ⟨C, S, hf, a, ws, rfl, hl, ha, q⟩ := h
  match ws, hl with
  | [y], _ => exact ⟨rfl, C, a, rfl, S, ha, y, rfl, _, rfl, a, C, rfl, S.oex, hf f (by simp), .inl ⟨ha, q⟩⟩
theorem spT_two {K : PySem.W.Frag} {D : Addr} {f g : Str} (hfg : f ≠ g) (vs : List V) (H : Hp) (Q : VK) (E : XK) (h : spS K D [f, g] vs H Q E) :
    spT K D 3 (tSeq (tOst K f (tVar 0) (tVar 1)) (tOst K g (tVar 0) (tVar 2))) vs H Q E := by
  obtain ⟨C, S, hf, a, ws, rfl, hl, ha, q⟩ := h
  match ws, hl with
  | [y, z], _ =>
    refine ⟨rfl, C, a, rfl, S, ha, y, rfl, _, rfl, a, C, rfl, S.oex, hf f (by simp), .inl ⟨ha, fun dx hdx hne => ⟨z, rfl, _, rfl, a, C, rfl, S.oex, hf g (by simp), .inr ⟨dx, [(f, y)], upd_same, by rw [upd_ne hne, upd_same], by simp, ?_⟩⟩⟩⟩
    have e : upd (upd (upd H dx (exd dx [(f, y)])) a (exo a C (some dx))) dx (exd dx [(g, z), (f, y)]) = upd (upd H dx (exd dx ([f, g].zip [y, z]).reverse)) a (exo a C (some dx)) := by
      funext b
      by_cases hb : b = dx
      · rw [hb, upd_same, upd_ne hne, upd_same]
        rfl
      · rw [upd_ne hb]
        by_cases hb2 : b = a
        · rw [hb2, upd_same, upd_same]
        · rw [upd_ne hb2, upd_ne hb2, upd_ne hb, upd_ne hb]
    show Q .non (upd (upd (upd H dx (exd dx [(f, y)])) a (exo a C (some dx))) dx (exd dx [(g, z), (f, y)]))
    rw [e]
    exact q dx hdx hne
theorem exG_of {P : Program} {w : World} {K : KC} {mg : Str → Option Value} {base : Heap} {k : Nat} {x : Str} {Ca D fI : Addr} {fd : FuncData} {fs ps : List Str} (hm : mg x = some (.ref Ca)) (hC : K.C.cls x = some Ca) (S : DX.SupC K.K Ca D) (hi : PySem.W.findIn K.K (.ref Ca) "__init__" = some (some (.ref fI)))
    (ht : PySem.W.typeIn K.K (.ref fI) = some (.type "function")) (hf : ∀ f ∈ fs, PySem.W.findIn K.K (.ref Ca) f = some none) (FO : FnOk P w K.K mg base (L2.CX P w) k fI fd ps (spS K.K D fs)) (hb : Binds K.K fd ps []) : ExG P w K mg base k x fs :=
  ⟨Ca, fI, fd, ps, hm, hC, S.oex, hi, ht, FO.imp fun vs H Q E z => ⟨Ca, S, hf, z⟩, hb⟩
theorem FunS.bindsN {P : Program} {K : PySem.W.Frag} {qual : Str} {params : Arguments} {body : List Stmt} {scope : Scope} {D f : Addr} {fd : FuncData} {ps : List Str} (F : DX.FunS P K qual params body scope D f fd)
    (h : ∀ (kV doc pm : Value) (an : Option Addr) (cda : Addr) (ct : Value) (cc : Addr) (us : List Value), us.length = ps.length → bindArgs (PySem.W.ksFn "__init__" qual params body scope .none kV doc pm an (.ref cda) ct cc) ⟨us, []⟩ = pure (ps.zip us)) : Binds K fd ps [] := by
  obtain ⟨oc, od, kV, doc, pm, an, cda, ct, osl, cc, cl, cld, csl, ccl, cdd, vs, ccs, file, tf, rfl, _⟩ := F.ex
  exact .all (h kV doc pm an cda ct cc)
def oexB (K : PySem.W.Frag) (C : Addr) : Bool := (match K.lookup C with
  | some ⟨.type "type", _, .cls cd, sl⟩ => (match cd.mro, sl.toList with
    | .ref C' :: bm, [_, _, _, _, some (.builtin n), _] => decide (C' = C) && (decide (n = "ValueError.__new__") && (!cd.hasDel && (cd.hasDict && PySem.HandSPX.refsVE bm)))
    | _, _ => false)
  | _ => false) && (He.eqO (PySem.W.findIn K (.ref C) "__setattr__") (some (some (.builtin "object.__setattr__"))) && (decide (PySem.W.subIn K (.ref C) (.type "BaseException") = some true) && (decide (PySem.W.typeIn K (.ref C) = some (.type "type")) && PySem.W.keepIn K (.ref C))))
theorem oexB_ok {K : PySem.W.Frag} {C : Addr} (h : oexB K C = true) : OexC K C := by
  obtain ⟨h1, h⟩ := He.ba h
  obtain ⟨h2, h⟩ := He.ba h
  obtain ⟨h3, h⟩ := He.ba h
  obtain ⟨h4, h5⟩ := He.ba h
  refine ⟨?_, He.eqO_ok h2, of_decide_eq_true h3, of_decide_eq_true h4, h5⟩
  cases q : K.lookup C with
  | none => rw [q] at h1; cases h1
  | some o =>
    rw [q] at h1
    obtain ⟨oc, od, dt, ⟨sl⟩⟩ := o
    split at h1
    · rename_i dd cd sl' hz
      cases hz
      split at h1
      · rename_i C' bm k0 k1 k2 k3 n k5 hm hs
        obtain ⟨a1, h1⟩ := He.ba h1
        obtain ⟨a2, h1⟩ := He.ba h1
        obtain ⟨a3, h1⟩ := He.ba h1
        obtain ⟨a4, a5⟩ := He.ba h1
        have b1 : C' = C := of_decide_eq_true a1
        have b2 : n = "ValueError.__new__" := of_decide_eq_true a2
        have b3 : cd.hasDel = false := by simpa using a3
        subst b1 b2
        obtain ⟨nm, bs, mro, ns, qn, hd, sn, sb, ab, col, del⟩ := cd
        dsimp only at hm b3 a4
        dsimp only at hs
        subst hm b3 a4 hs
        exact ⟨nm, qn, ns, bs, bm, sn, sb, ab, col, od, k0, k1, k2, k3, k5, rfl, a5⟩
      · cases h1
    · cases h1
end DL
namespace DL
open PySem PySem.Spec PyProof.Rows L2
def supB (K : PySem.W.Frag) (C D : Addr) : Bool := oexB K C && (decide (PySem.W.ks_superIn K C D "__init__" = some (some (.builtin "ValueError.__init__"))) && (decide (PySem.W.subIn K (.ref C) (.type "ValueError") = some true) && decide (PySem.W.mroIn K C (.ref D) = some true)))
theorem supB_ok {K : PySem.W.Frag} {C D : Addr} (h : supB K C D = true) : DX.SupC K C D := by
  obtain ⟨h1, h⟩ := He.ba h
  obtain ⟨h2, h⟩ := He.ba h
  obtain ⟨h3, h4⟩ := He.ba h
  exact ⟨oexB_ok h1, of_decide_eq_true h2, of_decide_eq_true h3, of_decide_eq_true h4⟩
def initB (K : PySem.W.Frag) (C D : Addr) : Bool := He.eqO (PySem.W.findIn K (.ref C) "__init__") (some (some (.ref (He.ma K D "__init__")))) && decide (PySem.W.typeIn K (.ref (He.ma K D "__init__")) = some (.type "function"))
def excB (K : PySem.W.Frag) (D : Addr) : Bool := He.eqO (PySem.W.findIn K (.ref D) "__getattribute__") (some (some (.builtin "BaseException.__getattribute__"))) && (He.eqO (PySem.W.findIn K (.ref D) "__getattr__") (some none) && (decide (PySem.W.subIn K (.ref D) (.type "BaseException") = some true) && (PySem.W.hasDictIn K D &&
  (He.eqO (PySem.W.findIn K (.ref D) "__class__") (some (some (.builtin "object.__class__"))) && (He.eqO (PySem.W.specialIn K (.builtin "object.__class__") "__get__") (some (some (.builtin "getset_descriptor.__get__"))) && (decide (PySem.W.takesIn K (.builtin "object.__class__") = some true) && decide (PySem.W.mroIn K D (.type "object") = some true)))))))
theorem excB_ok {K : PySem.W.Frag} {D : Addr} (h : excB K D = true) : ExcC K D := by
  obtain ⟨h1, h⟩ := He.ba h
  obtain ⟨h2, h⟩ := He.ba h
  obtain ⟨h3, h⟩ := He.ba h
  obtain ⟨h4, h⟩ := He.ba h
  obtain ⟨h5, h⟩ := He.ba h
  obtain ⟨h6, h⟩ := He.ba h
  obtain ⟨h7, h8⟩ := He.ba h
  exact ⟨He.eqO_ok h1, He.eqO_ok h2, of_decide_eq_true h3, h4, He.eqO_ok h5, He.eqO_ok h6, of_decide_eq_true h7, of_decide_eq_true h8⟩
theorem ExcC.xf {K : PySem.W.Frag} {D : Addr} (h : ExcC K D) : XfC K D := ⟨h.hg, h.hk, h.hs, h.hd⟩
abbrev FnS : Type := Option (Str × Str × Arguments × FuncBody × Scope × Addr × List Str × Addr)
def fnS (K : PySem.W.Frag) (p : Str × Option Str) : FnS := match K.lookup (He.fAd K p) with
  | some ⟨_, _, .func fd, _⟩ => some (fd.name, fd.qualname, fd.params, fd.body, fd.scope, fd.globals, fd.closure.map (·.1), fd.builtins)
  | _ => none
structure DefS where
  x : Str
  qual : Str
  params : Arguments
  body : List Stmt
  scope : Scope
def DefS.val (d : DefS) : FnS := some ("__init__", d.qual, d.params, .stmts d.body, d.scope, mainGlobals, ["__class__"], builtinsNs)
def cellB (K : PySem.W.Frag) (D : Addr) : List (Str × Addr) → Bool
  | [(_, c)] => (match K.lookup c with
    | some ⟨_, _, .cell (some (.ref a)), _⟩ => decide (a = D)
    | _ => false)
  | _ => false
def fileB (K : PySem.W.Frag) (file : Str) : Value → Bool
  | .ref c => (match K.lookup c with
    | some ⟨_, _, .fields vs, _⟩ => (match (vs : Array Value)[2]? with
      | some (Value.str f _) => file == f
      | _ => false)
    | _ => false)
  | _ => false
def noneB : Value → Bool
  | .none => true
  | _ => false
def DefS.ok (file : Str) (K : PySem.W.Frag) (d : DefS) : Bool := PySem.W.keepIn K (.ref (He.ma K (He.ga K d.x) "__init__")) && ((PySem.W.clsIn K (He.ga K d.x)).isSome && (He.eqO (PySem.W.nsIn K cStatics "thirdparty.any") (some none) && (match K.lookup (He.ma K (He.ga K d.x) "__init__") with
  | some ⟨_, _, .func fd, _⟩ => PySem.W.codeIn K fd.code d.qual && (noneB fd.defaults && (cellB K (He.ga K d.x) fd.closure && fileB K file fd.code))
  | _ => false)))
theorem DefS.funS {P : Program} {K : PySem.W.Frag} {d : DefS} {file : Str} (e : fnS K (d.x, some "__init__") = d.val) (c : d.ok file K = true) (hf : P.main.file = file) : ∃ fd, DX.FunS P K d.qual d.params d.body d.scope (He.ga K d.x) (He.ma K (He.ga K d.x) "__init__") fd := by
  obtain ⟨kp, c⟩ := He.ba c
  obtain ⟨hc, c⟩ := He.ba c
  obtain ⟨hst, c⟩ := He.ba c
  unfold fnS He.fAd at e
  dsimp only at e
  cases q : K.lookup (He.ma K (He.ga K d.x) "__init__") with
  | none => rw [q] at c; cases c
  | some o =>
    obtain ⟨oc, od, dt, osl⟩ := o
    rw [q] at c e
    cases dt with
    | func fd =>
      obtain ⟨n1, n2, n3, n4, n5, n6, n7, n8, n9, n10, n11, n12, n13, n14, n15⟩ := fd
      have e2 : (some (n1, n2, n3, n4, n5, n6, n7.map (·.1), n15) : FnS) = d.val := e
      unfold DefS.val at e2
      simp only [Option.some.injEq, Prod.mk.injEq] at e2
      obtain ⟨h1, h2, h3, h4, h5, h6, h7, h8⟩ := e2
      subst h1 h2 h3 h4 h5 h6 h8
      have c2 : (PySem.W.codeIn K n13 d.qual && (noneB n8 && (cellB K (He.ga K d.x) n7 && fileB K file n13))) = true := c
      obtain ⟨k1, c2⟩ := He.ba c2
      obtain ⟨k2, c2⟩ := He.ba c2
      obtain ⟨k3, k4⟩ := He.ba c2
      match n7, h7, k3 with
      | [(nm, cc)], h7, k3 =>
        have h9 : nm = "__class__" := by simpa using h7
        subst h9
        cases n8 with
        | none =>
          cases n13 with
          | ref cda =>
            unfold cellB at k3
            dsimp only at k3
            unfold fileB at k4
            dsimp only at k4
            split at k3
            · rename_i cl cld a csl hcc
              have ha : a = He.ga K d.x := of_decide_eq_true k3
              subst ha
              split at k4
              · rename_i ccl cdd vs ccs hcd
                split at k4
                · rename_i f tf hv
                  exact ⟨_, ⟨oc, od, n9, n10, n11, n12, cda, n14, osl, cc, cl, cld, csl, ccl, cdd, vs, ccs, f, tf, rfl, q, k1, hcc, hcd, hv, by rw [hf]; exact k4⟩, kp, Option.isSome_iff_exists.mp hc, He.eqO_ok hst⟩
                · cases k4
              · cases k4
            · cases k3
          | _ => cases k4
        | _ => cases k2
    | _ => cases c
def rcA (K : PySem.W.Frag) (C : Addr) (m : Str) (T : String) (j : Nat) : Addr := match PySem.W.recIn K (He.ma K C m) T with
  | some l => (match l[j]? with
    | some (.ref g) => g
    | _ => 0)
  | none => 0
structure DefC where
  T : String
  j : Nat
  d : He.DefD
def DefC.ad (K : PySem.W.Frag) (c : DefC) : Addr := match c.d.at_.2 with
  | some m => rcA K (He.ga K c.d.at_.1) m c.T c.j
  | none => 0
def fnA (K : PySem.W.Frag) (a : Addr) : He.FnW := match K.lookup a with
  | some ⟨_, _, .func fd, _⟩ => some (fd.name, fd.qualname, fd.params, fd.body, fd.scope, fd.globals, fd.closure, fd.builtins)
  | _ => none
def okA (K : PySem.W.Frag) (a : Addr) (d : He.DefD) : Bool := PySem.W.keepIn K (.ref a) && (match K.lookup a with
  | some ⟨_, _, .func fd, _⟩ => PySem.W.codeIn K fd.code d.qual && (He.dflB K fd.defaults (d.dvs K) && He.kwdB K fd.kwdefaults (d.kws K))
  | _ => false)
theorem funD_at {K : PySem.W.Frag} {a : Addr} {d : He.DefD} (e : fnA K a = d.val) (c : okA K a d = true) : ∃ fd, FunD K d.name d.qual d.params d.body d.scope (d.dvs K) (d.kws K) a fd := by
  obtain ⟨kp, c⟩ := He.ba c
  unfold fnA at e
  split at c
  · rename_i oc od fd osl lk
    rw [lk] at e
    obtain ⟨m1, m2, m3, m4, m5, m6, m7, m8, m9, m10, m11, m12, m13, m14, m15⟩ := fd
    have e : (some (m1, m2, m3, m4, m5, m6, m7, m15) : He.FnW) = d.val := e
    unfold He.DefD.val at e
    simp only [Option.some.injEq, Prod.mk.injEq] at e
    obtain ⟨h1, h2, h3, h4, h5, h6, h7, h8⟩ := e
    subst h1 h2 h3 h4 h5 h6 h7 h8
    obtain ⟨k1, c⟩ := He.ba (show (PySem.W.codeIn K m13 d.qual && (He.dflB K m8 (d.dvs K) && He.kwdB K m9 (d.kws K))) = true from c)
    obtain ⟨k3, k4⟩ := He.ba c
    exact ⟨_, ⟨oc, od, m8, m9, m10, m11, m12, m13, m14, osl, rfl, lk, k1, He.dflB_ok k3, He.kwdB_ok k4⟩, kp⟩
  · cases c
def asE (g : Addr → Option Obj) : Nat → List Addr
  | 0 => [mainGlobals, cStatics]
  | n + 1 => He.growD g (asE g n)
abbrev AlE : Type := Bool × List He.FnW × List FnS × List He.FnW
structure Ask where
  file : Str
  fa : List He.Fa
  fb : List (PySem.W.Frag → Bool)
  fn : List He.DefD
  fs : List DefS
  fc : List DefC := []
def obsE (q : Ask) (K : PySem.W.Frag) : AlE := ((q.fa.all fun f => f.ok K) && ((q.fb.all fun f => f K) && ((q.fn.all fun d => d.ok K) && ((q.fs.all fun d => d.ok q.file K) && q.fc.all fun d => okA K (d.ad K) d.d))), q.fn.map fun d => He.fnW K d.at_, q.fs.map fun d => fnS K (d.x, some "__init__"), q.fc.map fun d => fnA K (d.ad K))
def valE (q : Ask) : AlE := (true, q.fn.map He.DefD.val, q.fs.map DefS.val, q.fc.map fun d => d.d.val)
def SaysE (q : Ask) (K : PySem.W.Frag) : Prop := obsE q K = valE q
def obsEG (n : Nat) (q : Ask) (g : Addr → Option Obj) : AlE := obsE q (He.frG g (asE g n))
def hookE (n : Nat) (q : Ask) : PySem.W.Hook where
  α := AlE
  obs := fun s => obsEG n q s.heap.get?
  val := fun _ => valE q
  says := fun _ h => ∃ K : PySem.W.Frag, K.In h ∧ SaysE q K
  of := fun _ _ e => ⟨_, He.frG_in, e⟩
  keeps := fun _ _ _ ⟨K, hK, c⟩ k => ⟨K, PySem.W.Frag.In.keeps hK k, c⟩
theorem obsEG_eq {n : Nat} {q : Ask} {g : Addr → Option Obj} {s : Shared} (h : ∀ a, g a = s.heap.get? a) : obsEG n q g = (hookE n q).obs s := by
  have e : g = s.heap.get? := funext h
  rw [e] <;> rfl
section
variable {q : Ask} {K : PySem.W.Frag}
theorem SaysE.all (c : SaysE q K) : (q.fa.all fun f => f.ok K) = true ∧ (q.fb.all fun f => f K) = true ∧ (q.fn.all fun d => d.ok K) = true ∧ (q.fs.all fun d => d.ok q.file K) = true ∧ (q.fc.all fun d => okA K (d.ad K) d.d) = true := by
  have c1 : ((q.fa.all fun f => f.ok K) && ((q.fb.all fun f => f K) && ((q.fn.all fun d => d.ok K) && ((q.fs.all fun d => d.ok q.file K) && q.fc.all fun d => okA K (d.ad K) d.d)))) = true := congrArg (fun z : AlE => z.1) c
  obtain ⟨h1, c1⟩ := He.ba c1
  obtain ⟨h2, c1⟩ := He.ba c1
  obtain ⟨h3, c1⟩ := He.ba c1
  obtain ⟨h4, h5⟩ := He.ba c1
  exact ⟨h1, h2, h3, h4, h5⟩
theorem SaysE.fact (c : SaysE q K) (i : Nat) {f : He.Fa} (h : q.fa[i]? = some f := by rfl) : f.ok K = true := List.all_eq_true.mp c.all.1 f (List.mem_of_getElem? h)
theorem SaysE.fb (c : SaysE q K) (i : Nat) {f : PySem.W.Frag → Bool} (h : q.fb[i]? = some f := by rfl) : f K = true := List.all_eq_true.mp c.all.2.1 f (List.mem_of_getElem? h)
theorem SaysE.def_ (c : SaysE q K) (i : Nat) {d : He.DefD} (h : q.fn[i]? = some d := by rfl) : ∃ fd, FunD K d.name d.qual d.params d.body d.scope (d.dvs K) (d.kws K) (He.fAd K d.at_) fd := by
  have e : q.fn.map (fun d => He.fnW K d.at_) = q.fn.map He.DefD.val := congrArg (fun z : AlE => z.2.1) c
  have e2 : (q.fn.map fun d => He.fnW K d.at_)[i]? = (q.fn.map He.DefD.val)[i]? := by rw [e]
  rw [List.getElem?_map, List.getElem?_map, h] at e2
  exact He.DefD.funD (Option.some.inj e2) (List.all_eq_true.mp c.all.2.2.1 d (List.mem_of_getElem? h))
theorem SaysE.ini (c : SaysE q K) (i : Nat) {d : DefS} {P : Program} (hf : P.main.file = q.file) (h : q.fs[i]? = some d := by rfl) : ∃ fd, DX.FunS P K d.qual d.params d.body d.scope (He.ga K d.x) (He.ma K (He.ga K d.x) "__init__") fd := by
  have e : q.fs.map (fun d => fnS K (d.x, some "__init__")) = q.fs.map DefS.val := congrArg (fun z : AlE => z.2.2.1) c
  have e2 : (q.fs.map fun d => fnS K (d.x, some "__init__"))[i]? = (q.fs.map DefS.val)[i]? := by rw [e]
  rw [List.getElem?_map, List.getElem?_map, h] at e2
  exact DefS.funS (Option.some.inj e2) (List.all_eq_true.mp c.all.2.2.2.1 d (List.mem_of_getElem? h)) hf
theorem SaysE.rec (c : SaysE q K) (i : Nat) {d : DefC} (h : q.fc[i]? = some d := by rfl) : ∃ fd, FunD K d.d.name d.d.qual d.d.params d.d.body d.d.scope (d.d.dvs K) (d.d.kws K) (d.ad K) fd := by
  have e : q.fc.map (fun d => fnA K (d.ad K)) = q.fc.map fun d => d.d.val := congrArg (fun z : AlE => z.2.2.2) c
  have e2 : (q.fc.map fun d => fnA K (d.ad K))[i]? = (q.fc.map fun d => d.d.val)[i]? := by rw [e]
  rw [List.getElem?_map, List.getElem?_map, h] at e2
  exact funD_at (Option.some.inj e2) (List.all_eq_true.mp c.all.2.2.2.2 d (List.mem_of_getElem? h))
end
end DL
namespace DL
open PySem PySem.Spec PyProof.Rows L2
def fldD (cs : List Str) (f : Str) : D → Option D
  | .ins c fs => if c ∈ cs then fs.lookup f else none
  | _ => none
theorem fldD_ins (cs : List Str) (f c : Str) (fs : List (Str × D)) : fldD cs f (.ins c fs) = if c ∈ cs then fs.lookup f else none := rfl
def mFld (cs : List Str) (f : Str) (m : Env → Rz EV) : Env → Rz EV := fun env => m env >>= fun a => orStuck (fldD cs f a.d) >>= fun d => .ok (.fz d)
def putD (f : Str) (v : D) : List (Str × D) → List (Str × D)
  | [] => [(f, v)]
  | (g, x) :: r => if g = f then (g, v) :: r else (g, x) :: putD f v r
theorem RepF.put {K : KC} {G : Hp} {f : Str} {v : V} {d : D} (h : Rep K G v d) : ∀ {vs : List (Str × V)} {ds : List (Str × D)}, RepF K G vs ds → RepF K G (putF f v vs) (putD f d ds)
  | _, _, .nil => .cons h .nil
  | (g, x) :: vs, (_, y) :: ds, .cons a b => by
    unfold putF putD
    by_cases e : g = f
    · rw [if_pos e, if_pos e]; exact .cons h b
    · rw [if_neg e, if_neg e]; exact .cons a (b.put h)
theorem RepF.length {K : KC} {G : Hp} : ∀ {vs : List (Str × V)} {ds : List (Str × D)}, RepF K G vs ds → vs.length = ds.length
  | _, _, .nil => rfl
  | _, _, .cons _ b => congrArg Nat.succ b.length
def FldOk (K : PySem.W.Frag) (C : CT) (cs : List Str) (f : Str) : Prop := ∀ c ∈ cs, ∀ Ca, C.cls c = some Ca → Cls K Ca ∧ NoAttr K Ca f
section
variable {X : Cx} {C : CT} {W : WX}
theorem ins_of {K : KC} {Z : Ent} {Hs G H : Hp} {v : V} {a : EV} {c : Str} {fs : List (Str × D)} (s : Sub G H) (va : EVok K Z Hs G H v a) (h : a.d = .ins c fs) :
    ∃ p Ca dx vs, v = .ref p ∧ K.C.cls c = some Ca ∧ H p = some (.ins Ca dx vs) ∧ RepF K G vs fs := by
  cases a with
  | fz d =>
    have hd : d = .ins c fs := h
    subst hd
    cases va with
    | ins q e r => exact ⟨_, _, _, _, rfl, q, s _ _ e, r⟩
  | ow n w =>
    obtain ⟨p, rfl, wo, _⟩ := va
    cases w with
    | lst ds => cases h
    | dct t ds => cases h
    | ins c' fs' => cases h; obtain ⟨Ca, dx, vs, q, e, r⟩ := wo; exact ⟨p, Ca, dx, vs, rfl, q, e, r⟩
    | self c' fs' => cases h; obtain ⟨_, Ca, dx, vs, q, e, r⟩ := wo; exact ⟨p, Ca, dx, vs, rfl, q, e, r⟩
theorem de_fld {cs : List Str} {f : Str} {e : Expr} {m : Env → Rz EV} {pos : Pos} (hc : FldOk X.K C cs f) (he : DE X C W e m) (hb : attributeBase e f X.env (eval e X.env) = eval e X.env := by rfl) : DE X C W (.Attribute e f pos) (mFld cs f m) :=
  ⟨PE.imp (pe_fld he.pe hb) fun σ H Q ⟨Z, G, env, er, q⟩ => by
    unfold mFld at q
    refine ⟨Z, G, env, er, ?_⟩
    cases ha : m env with
    | stuck => rw [ha] at q; exact q.elim
    | exc e => rw [ha] at q; exact q
    | ok a =>
      rw [ha] at q
      simp only [Rz.ok_bind] at q
      intro v G1 H1 x1 va
      cases hd : a.d with
      | ins c fs =>
        rw [hd, fldD_ins] at q
        by_cases hcc : c ∈ cs
        · rw [if_pos hcc] at q
          cases hl : fs.lookup f with
          | none => rw [hl] at q; exact q.elim
          | some y =>
            rw [hl] at q
            simp only [orStuck_some, Rz.ok_bind] at q
            obtain ⟨p, Ca, dx, vs, e1, e2, e3, r⟩ := ins_of x1.s va hd
            obtain ⟨u, u1, u2⟩ := r.look hl
            obtain ⟨k1, k2⟩ := hc c hcc Ca e2
            exact ⟨p, Ca, dx, vs, u, e1, e3, k1, k2, u1, q u G1 H1 x1 u2⟩
        · rw [if_neg hcc] at q; exact q.elim
      | _ => rw [hd] at q; exact q.elim⟩
def mSetFld (i : Nat) (cs : List Str) (f : Str) (m : Env → Rz EV) : Env → Out := fun env => match m env with
  | .ok a => (match a.fr with
    | .fz d => (match env.getD i .no with
      | .own (.self c fs) => if c ∈ cs ∧ fs.length < 1000 then .nx (env.set i (.own (.self c (putD f d fs)))) else .stuck
      | _ => .stuck)
    | _ => .stuck)
  | .exc e => .exc e env
  | .stuck => .stuck
theorem ds_setFld (i : Nat) {cs : List Str} {x f : Str} {e : Expr} {m : Env → Rz EV} {xp p' pos : Pos} (hc : FldOk X.K C cs f) (he : DE X C W e m) (hs : swapsWith e (some (.Attribute (.Name x xp) f p')) pos.line X.env = pure false := by rfl)
    (hN : X.N[i]? = some x := by rfl) (hv : Vis X.env.scope x := by first | exact Or.inl rfl | exact Or.inr (Or.inl rfl) | exact Or.inr (Or.inr rfl)) (hd : (x == ("__debug__" : Str)) = false := by decide) (hcd : (x == ("__classdict__" : Str)) = false := by decide) :
    DS X C W (.Assign [.Attribute (.Name x xp) f p'] e pos) (mSetFld i cs f m) :=
  ⟨PS.imp (ps_fld (pe_var hN hv hd hcd) he.pe hs) fun D σ H ⟨Z, G, env, er, q⟩ => by
    unfold mSetFld at q
    refine ⟨Z, G, env, er, ?_⟩
    cases ha : m env with
    | stuck => rw [ha] at q; exact q.elim
    | exc e =>
      rw [ha] at q
      exact fun cls d G' H' x k => q σ H' G' cls d x.g (er.ext x) k
    | ok a =>
      rw [ha] at q
      intro y G1 H1 x1 va
      obtain ⟨G2, s2, er2, va2⟩ := frz_go (er.ext x1) va fun p hp => er.free hp
      dsimp only at q
      cases hf : a.fr with
      | ow n w => rw [hf] at q; exact q.elim
      | fz d =>
        rw [hf] at q va2
        dsimp only at q
        split at q
        · rename_i c fs hi
          have hi := getD_some hi (by simp)
          split at q
          · rename_i hz
            obtain ⟨v, h1, p, rfl, sl, Ca, dx, vs, k1, h3, h4⟩ := er2.at' i _ hi
            obtain ⟨k2, k3⟩ := hc c hz.1 Ca k1
            refine ⟨.ref p, h1, p, Ca, dx, vs, rfl, h3, k2, k3, by rw [h4.length]; exact hz.2, q _ _ G2 (x1.g.trans s2) (er2.put hi h1 ⟨sl, Ca, dx, _, k1, upd_same, h4.put va2⟩)⟩
          · exact q.elim
        · exact q.elim⟩
end
theorem spD_cx {K K' : KC} (h1 : K.K = K'.K) (h2 : K.C.cls = K'.C.cls) (h3 : K.C.slf = none) {n : Nat} {F : Fn} {vs : List V} {H : Hp} {Q : VK} {E : XK} (h : spD K' n F vs H Q E) : spD K n F vs H Q E := by
  obtain ⟨G, ds, s, r, l, q⟩ := h
  refine ⟨G, ds, s, Reps.cx h1.symm h2.symm r, l, ?_⟩
  cases hF : F ds with
  | stuck => rw [hF] at q; exact q
  | exc e => rw [hF] at q; exact fun cls d G' H' x k => q cls d G' H' x (ExcOk.cx h1 h2 k)
  | ok ev => rw [hF] at q; exact fun v G' H' x k => q v G' H' x (EVok.cx h1 h2 (fun p z => by rw [h3] at z; cases z) k)
theorem FnG.cx {P : Program} {w : World} {K : PySem.W.Frag} {C C' : CT} {mg : Str → Option Value} {base : Heap} {k : Nat} {x : Str} {ps : List Str} {F : Fn} (h2 : C.cls = C'.cls) (h3 : C.slf = none) (h : FnG P w ⟨K, C⟩ mg base k x ps F) : FnG P w ⟨K, C'⟩ mg base k x ps F := by
  obtain ⟨fd, f1, f2, f3, f4⟩ := h
  exact ⟨fd, f1.imp fun vs H Q E z => spD_cx (K := ⟨K, C⟩) (K' := ⟨K, C'⟩) rfl h2 h3 z, f2, f3, f4⟩
end DL
namespace DL
open PySem PySem.Spec PyProof.Rows L2
theorem del_sub {H : Hp} {a : Addr} : Sub (del H a) H := fun b o e => by
  by_cases hb : b = a
  · rw [hb, del_same] at e; cases e
  · rw [del_ne hb] at e; exact e
theorem sub_del {G H : Hp} {a : Addr} (s : Sub G H) (g : G a = none) : Sub G (del H a) := fun b o e => by
  rw [del_ne (ne_of_none e g)]; exact s b o e
theorem er_startI {K : KC} {G H : Hp} {a : Addr} {w : OW} {ws : List V} {ds : List D} (s : Sub G H) (g : G a = none) (wo : WOk K G H a w) (r : Reps K G ws ds) (M : Nat) :
    ER K ⟨G, del H a⟩ G H (some (.ref a) :: (ws.map some ++ List.replicate M none)) (.own w :: (ds.map SL.val ++ List.replicate M SL.no)) := by
  have hl := r.length
  have noown : ∀ (i : Nat) (x : SL) (v : Option V) (p : Addr), (ds.map SL.val ++ List.replicate M SL.no)[i]? = some x → ¬ x.owns v p := fun i x v p e ⟨⟨w, z⟩, _⟩ => by
    subst z
    rcases List.mem_append.mp (List.mem_of_getElem? e) with m | m
    · obtain ⟨d, _, z⟩ := List.mem_map.mp m
      cases z
    · cases (List.mem_replicate.mp m).2
  refine ⟨by simp [hl], .refl, del_sub, sub_del s g, s, fun b n z => absurd z n, fun i x e => ?_, fun i x v p e e2 o => ?_, fun i j x y v u p e1 e2 o1 e3 e4 o2 => ?_⟩
  · cases i with
    | zero => cases e; exact ⟨_, rfl, a, rfl, wo⟩
    | succ i =>
      have e' : (ds.map SL.val ++ List.replicate M SL.no)[i]? = some x := e
      show ∃ v, (ws.map some ++ List.replicate M none)[i]? = some v ∧ _
      rw [List.getElem?_append] at e' ⊢
      rw [List.length_map] at e' ⊢
      rw [hl]
      by_cases hi : i < ds.length
      · rw [if_pos hi] at e' ⊢
        rw [List.getElem?_map] at e' ⊢
        cases q : ds[i]? with
        | none => rw [q] at e'; cases e'
        | some d =>
          rw [q] at e'; cases e'
          obtain ⟨u, h1, h2⟩ := r.get q
          exact ⟨some u, by rw [h1]; rfl, u, rfl, h2⟩
      · rw [if_neg hi] at e' ⊢
        rw [List.getElem?_replicate] at e' ⊢
        by_cases hm : i - ds.length < M
        · rw [if_pos hm] at e' ⊢
          cases e'
          exact ⟨none, rfl, trivial⟩
        · rw [if_neg hm] at e'; cases e'
  · cases i with
    | zero =>
      cases e; cases e2
      obtain ⟨_, z⟩ := o
      cases z
      exact ⟨g, del_same⟩
    | succ i => exact absurd o (noown i x v p e)
  · cases i with
    | zero => cases j with
      | zero => rfl
      | succ j => exact absurd o2 (noown j y u p e3)
    | succ i => exact absurd o1 (noown i x v p e1)
abbrev IFn := List D → Rz (List (Str × D))
def runI (N : Nat) (c : Str) (b : Env → Out) : IFn := fun ds => match b (.own (.self c []) :: (ds.map SL.val ++ List.replicate (N - (ds.length + 1)) SL.no)) with
  | .nx env => (match env.getD 0 .no with
    | .own (.self c' fs) => if c' = c then .ok fs else .stuck
    | _ => .stuck)
  | .exc e _ => .exc e
  | _ => .stuck
structure Mkd (G H : Hp) (a : Addr) (G' H' : Hp) : Prop where
  g : Sub G G'
  s : Sub G' H'
  h : Sub (del H a) H'
  n : ∀ b, G b = none → NT (del H a) b → G' b = none
def spI (K : KC) (c : Str) (n : Nat) (IF : IFn) : Sp := fun vs H Q E => ∃ (a Ca dx : Addr) (ws : List V) (G : Hp) (ds : List D), vs = .ref a :: ws ∧ K.C.cls c = some Ca ∧ H a = some (.ins Ca dx []) ∧ G a = none ∧ Sub G H ∧ Reps K G ws ds ∧ ds.length = n ∧
  match IF ds with
  | .ok fs => ∀ G' H' dx' vs', Mkd G H a G' H' → G' a = none → H' a = some (.ins Ca dx' vs') → RepF K G' vs' fs → Q .non H'
  | .exc e => ∀ cls d G' H', Mkd G H a G' H' → ExcOk K G' H' cls d e → E cls d H'
  | .stuck => False
theorem fn_init {P : Program} {w : World} {mg : Str → Option Value} {base : Heap} {K : PySem.W.Frag} {C : CT} {c x qual : Str} {params : Arguments} {body : List Stmt} {scope : Scope} {dvs : List V} {kws : List (Str × V)} {f : Addr} {fd : FuncData} {N ps : List Str} {k n : Nat} {b : Env → Out} (F : FunD K x qual params body scope dvs kws f fd) (S : FnScope N ps scope) (hn : ps.length = n + 1)
    (hbody : ∀ (a : Addr) (cdv : Value) (A : Around) (outer : List PySem.Env) (s : Shared) (H : Hp) (E : XK), Room k (A.deeper (envOfC qual scope s.heap.objs.size f cdv)) →
      PassesOwn (model P w) (A.deeper (envOfC qual scope s.heap.objs.size f cdv)) (envOfC qual scope s.heap.objs.size f cdv) (cxOf (L2.CX P w) P w K mg base N qual scope f cdv A outer s H E).xe →
      Takes (cxOf (L2.CX P w) P w K mg base N qual scope f cdv A outer s H E) (fun cls d _ H => E cls d H) → DSs (cxOf (L2.CX P w) P w K mg base N qual scope f cdv A outer s H E) ⟨C.cls, none, some a⟩ (fun cls d _ H => E cls d H) body b) :
    FnOk P w K mg base (L2.CX P w) (k + 1) f fd ps (spI ⟨K, C⟩ c n (runI N.length c b)) := by
  refine F.ok S (fun vs H Q E ⟨a, Ca, dx, ws, G, ds, e, _, _, _, _, r, l, _⟩ => by rw [e, List.length_cons, r.length, l, hn]) fun cdv A outer s H vs Q E hr ⟨a, Ca, dx, ws, G, ds, e, hC, ha, ga, hs, r, l, h⟩ => ?_
  subst e
  have r2 : Reps ⟨K, ⟨C.cls, none, some a⟩⟩ G ws ds := Reps.cx (K := ⟨K, C⟩) (K' := ⟨K, ⟨C.cls, none, some a⟩⟩) rfl rfl r
  have wo : WOk ⟨K, ⟨C.cls, none, some a⟩⟩ G H a (.self c []) := ⟨rfl, Ca, dx, [], hC, ha, .nil⟩
  have hst : start N (V.ref a :: ws) = some (.ref a) :: (ws.map some ++ List.replicate (N.length - (ds.length + 1)) none) := by
    unfold L2.start
    rw [List.map_cons, List.cons_append, List.length_cons, r.length]
  refine ⟨_, (hbody a cdv A outer s H E hr (passes_of rfl) (takes_of rfl rfl rfl rfl)).pss, ⟨G, del H a⟩, G, _, by rw [hst]; exact er_startI hs ga wo r2 (N.length - (ds.length + 1)), ?_⟩
  unfold runI at h
  have mk : ∀ {G' H' : Hp} {σ : L2.St} {env : Env}, ER ⟨K, ⟨C.cls, none, some a⟩⟩ ⟨G, del H a⟩ G' H' σ env → Mkd G H a G' H' := fun {G' H' σ env} er => ⟨er.zg, er.sub, er.zh, fun b g nt => by
    cases q : G' b with
    | none => rfl
    | some o => exact absurd nt (er.new b (by rw [q]; simp) g)⟩
  show Post _ _ _ _ _ _
  cases hb : b (.own (.self c []) :: (ds.map SL.val ++ List.replicate (N.length - (ds.length + 1)) SL.no)) with
  | nx env =>
    rw [hb] at h
    dsimp only at h
    intro σ H' G' s' er
    cases hq : env.getD 0 .no with
    | own wq =>
      rw [hq] at h
      cases wq with
      | self c' fs =>
        dsimp only at h
        by_cases hcc : c' = c
        · rw [if_pos hcc] at h
          subst hcc
          have hi := getD_some hq (by simp)
          obtain ⟨v, h1, p, rfl, hp, Ca', dx', vs', k1, k2, k3⟩ := er.at' 0 _ hi
          cases hp
          have hCa : Ca' = Ca := by
            have z : C.cls c' = some Ca' := k1
            have z2 : C.cls c' = some Ca := hC
            rw [z] at z2
            exact Option.some.inj z2
          subst hCa
          exact h G' H' dx' vs' (mk er) (er.own 0 _ _ a hi h1 ⟨⟨_, rfl⟩, rfl⟩).1 k2 (RepF.cx (K := ⟨K, ⟨C.cls, none, some a⟩⟩) (K' := ⟨K, C⟩) rfl rfl k3)
        · rw [if_neg hcc] at h; exact h.elim
      | _ => exact h.elim
    | _ => rw [hq] at h; exact h.elim
  | ret ev => rw [hb] at h; exact h.elim
  | exc e env =>
    rw [hb] at h
    exact fun σ H' G' cls d s' er kx => h cls d G' H' (mk er) (ExcOk.cx (K := ⟨K, ⟨C.cls, none, some a⟩⟩) (K' := ⟨K, C⟩) rfl rfl kx)
  | bk e => rw [hb] at h; exact h.elim
  | ct e => rw [hb] at h; exact h.elim
  | stuck => rw [hb] at h; exact h.elim
section
variable {X : Cx} {W : WX}
theorem make_at {pins : List (Addr × Obj)} {σ : L2.St} {H : Hp} {s : Shared} {Q : VK} {us : List Value} {vs : List V} {Cc f : Addr} {k : Nat} {fd : FuncData} {ps : List Str} {sp : Sp} (M : Mk X.K Cc f) (FO : FnOk X.prog X.w X.K X.mg X.base (L2.CX X.prog X.w) k f fd ps sp)
    (hr : Room (k + 1) X.A) (hb : Binds X.K fd ps []) (tk : Takes X W) (I : Inv X pins σ H s) (r : Vals vs us)
    (h : ∀ x dx, H x = none → H dx = none → dx ≠ x → sp (.ref x :: vs) (upd (upd H dx (.own x)) x (.ins Cc dx [])) (fun v H2 => v = .non ∧ Q (.ref x) H2) (WE W σ)) : wpAny (model X.prog X.w) X.A (call (.ref Cc) us) (EP X pins σ Q) X.xe s := by
  have n0 : H s.heap.objs.size = none := I.hok.fresh (Nat.le_refl _)
  have n1 : H (s.heap.objs.size + 1) = none := I.hok.fresh (Nat.le_succ _)
  have asked := h _ _ n1 n0 (Nat.ne_of_lt (Nat.lt_succ_self _))
  have J := I.made (C := Cc)
  have rr : Vals (V.ref (s.heap.objs.size + 1) :: vs) (Value.ref (s.heap.objs.size + 1) :: us) := .cons rfl r
  have len : (Value.ref (s.heap.objs.size + 1) :: us).length = ps.length := rr.length.symm.trans (FO.len _ _ _ _ asked)
  have bound := hb _ (Value.ref (s.heap.objs.size + 1) :: us) J.kIn (by rw [List.append_nil]; exact len)
  rw [List.append_nil] at bound
  have ran := FO.run _ X.stack _ _ ⟨Value.ref (s.heap.objs.size + 1) :: us, []⟩ _ _ _ _ (hr.make Cc us []) (J.env0.make Cc us []) bound rr asked
  refine wpAny_call (make_map I.kIn M.makes M.init (beq_iff_eq.mp M.fn) (codeAny_mono ran fun res s' got => ?_))
  match res, got with
  | .error e, got => exact passAt tk σ pins _ _ e s' J got
  | .ok (.ret u), got =>
    obtain ⟨v, H', J3, rv, ev, q3⟩ := J.after got
    subst ev
    exact ⟨rv, V.ref (s.heap.objs.size + 1), H', J3, rfl, q3⟩
  | .ok .next, got => exact got.elim
  | .ok .brk, got => exact got.elim
  | .ok .cont, got => exact got.elim
def tMakeS (Cc : Addr) (sp : Sp) (W : WX) (t : TA) : TE := fun σ H Q => t σ H fun vs H1 => ∀ x dx, H1 x = none → H1 dx = none → dx ≠ x → sp (.ref x :: vs) (upd (upd H1 dx (.own x)) x (.ins Cc dx [])) (fun v H2 => v = .non ∧ Q (.ref x) H2) (WE W σ)
theorem pe_makeS {Cc f : Addr} {k : Nat} {fd : FuncData} {ps : List Str} {sp : Sp} {x : Str} {e : Expr} {es : List Expr} {t : TA} {p pos : Pos} (M : Mk X.K Cc f) (FO : FnOk X.prog X.w X.K X.mg X.base (L2.CX X.prog X.w) k f fd ps sp)
    (hr : Room (k + 1) X.A) (hb : Binds X.K fd ps []) (tk : Takes X W) (hg : Gl X x) (hm : X.mg x = some (.ref Cc)) (ha : PA X (e :: es) t) (hdb : (x == ("__debug__" : Str)) = false := by decide) (he : starEach (e :: es) X.env = (false, eval e X.env) :: starEach es X.env := by rfl)
    (hpl : (backTo pos (starEach es X.env)).any (·.1) = false := by rfl) : PE X (.Call (.Name x p) (e :: es) [] pos) (tMakeS Cc sp W t) := ⟨fun pins s σ H Q I h =>
  wpAny_Call_Name_kw (ld_glob I hg hm (PySem.W.callWith_K (h₀ := X.base) I.ok.mod.kin M.kp (thn (ha.run pos pins s σ H _ I h) fun us s1 ⟨vs, H1, I1, r, q⟩ => ⟨I1.kIn, make_at M FO hr hb tk I1 r q⟩) he hpl) hdb)⟩
end
def InG (P : Program) (w : World) (K : KC) (mg : Str → Option Value) (base : Heap) (k : Nat) (c : Str) (n : Nat) (IF : IFn) : Prop :=
  ∃ (Ca f : Addr) (fd : FuncData) (ps : List Str), mg c = some (.ref Ca) ∧ K.C.cls c = some Ca ∧ Mk K.K Ca f ∧ FnOk P w K.K mg base (L2.CX P w) k f fd ps (spI K c n IF) ∧ Binds K.K fd ps []
def appI (c : Str) (IF : IFn) (evs : List EV) : Rz EV := match IF (evs.map EV.d) with
  | .ok fs => if allFzB evs = true ∨ pureFs fs = true then .ok (.ow true (.ins c fs)) else .stuck
  | .exc e => if allFzB evs = true ∨ pureFs e.fs = true then .exc e else .stuck
  | .stuck => .stuck
def mMake (c : Str) (n : Nat) (IF : IFn) (m : Env → Rz (List EV)) : Env → Rz EV := fun env => m env >>= fun evs => if evs.length = n then appI c IF evs else .stuck
section
variable {X : Cx} {C : CT} {W : WX}
theorem ask_init {IF : IFn} {c : Str} {n : Nat} {Ca : Addr} {Z : Ent} {G1 H1 Hs : Hp} {σ : L2.St} {env : Env} {vs : List V} {evs : List EV} {Q : VK} {E : XK} (er : ER (kc X C) Z G1 H1 σ env) (va : EVs (kc X C) Z Hs G1 H1 vs evs) (hn : evs.length = n) (hC : C.cls c = some Ca)
    (q : match appI c IF evs with
      | .ok ev => ∀ v G' H', Ext G1 H1 G' H' → EVok (kc X C) Z H1 G' H' v ev → Q v H'
      | .exc e => ∀ cls d G' H', Ext G1 H1 G' H' → ExcOk (kc X C) G' H' cls d e → E cls d H'
      | .stuck => False) (x dx : Addr) (hx : H1 x = none) (hdx : H1 dx = none) (hne : dx ≠ x) :
    spI (kc X C) c n IF (.ref x :: vs) (upd (upd H1 dx (.own x)) x (.ins Ca dx [])) (fun v H2 => v = .non ∧ Q (.ref x) H2) E := by
  have up1 : Sub H1 (del (upd (upd H1 dx (.own x)) x (.ins Ca dx [])) x) := fun b o e => by
    rw [del_ne (ne_of_none e hx), upd_ne (ne_of_none e hx), upd_ne (ne_of_none e hdx)]; exact e
  have up2 : Sub H1 (upd (upd H1 dx (.own x)) x (.ins Ca dx [])) := up1.trans del_sub
  have ext : ∀ {G0 G' H' : Hp}, Mkd G0 (upd (upd H1 dx (.own x)) x (.ins Ca dx [])) x G' H' → Ext G0 H1 G' H' := fun {G0 G' H'} m => ⟨m.g, up1.trans m.h, m.s, fun b e nt => m.n b e (nt.mono up1)⟩
  unfold appI at q
  by_cases hf : allFzB evs = true
  · refine ⟨x, Ca, dx, vs, G1, evs.map EV.d, rfl, hC, upd_same, er.sub.none hx, er.sub.trans up2, va.repsF hf, by rw [List.length_map]; exact hn, ?_⟩
    cases hF : IF (evs.map EV.d) with
    | stuck => rw [hF] at q; exact q
    | exc e =>
      rw [hF] at q
      dsimp only at q
      rw [if_pos (.inl hf)] at q
      exact fun cls d G' H' m k => q cls d G' H' (ext m) k
    | ok fs =>
      rw [hF] at q
      dsimp only at q
      rw [if_pos (.inl hf)] at q
      exact fun G' H' dx' vs' m g' e r => ⟨rfl, q _ G' H' (ext m) ⟨x, rfl, ⟨Ca, dx', vs', hC, e, r⟩, g', er.zh.none hx, fun _ => hx⟩⟩
  · refine ⟨x, Ca, dx, vs, H1, evs.map EV.d, rfl, hC, upd_same, hx, up2, va.reps er.sub, by rw [List.length_map]; exact hn, ?_⟩
    have lower : ∀ {G' H' : Hp}, Ext H1 H1 G' H' → Ext G1 H1 (orH G1 (tups H')) H' := fun {G' H'} y =>
      ⟨orH_l _ _, y.h, orH_sub (er.sub.trans y.h) (tups_sub H'), fun b e nt => by rw [orH_none e]; exact tups_nt (nt.mono y.h)⟩
    cases hF : IF (evs.map EV.d) with
    | stuck => rw [hF] at q; exact q
    | exc e =>
      rw [hF] at q
      dsimp only at q
      intro cls d G' H' m k
      by_cases hp : pureFs e.fs = true
      · rw [if_pos (.inr hp)] at q
        have y := ext m
        refine q cls d _ H' (lower y) ?_
        obtain ⟨a, h1, h2, h3⟩ := k
        refine ⟨a, h1, h2, ?_⟩
        rcases h3 with h3 | ⟨dd, fs, h3, h4, h5⟩
        · exact .inl h3
        · exact .inr ⟨dd, fs, h3, orH_r (er.sub.trans y.h) (tups_sub H') _ _ (tups_getX (y.s _ _ h4)), (pure_repF (h5.mono y.s) hp).mono (orH_r (er.sub.trans y.h) (tups_sub H'))⟩
      · rw [if_neg (fun z => z.elim hf hp)] at q; exact q.elim
    | ok fs =>
      rw [hF] at q
      dsimp only at q
      intro G' H' dx' vs' m g' e r
      by_cases hp : pureFs fs = true
      · rw [if_pos (.inr hp)] at q
        have y := ext m
        refine ⟨rfl, q _ _ H' (lower y) ⟨x, rfl, ⟨Ca, dx', vs', hC, e, (pure_repF (r.mono y.s) hp).mono (orH_r (er.sub.trans y.h) (tups_sub H'))⟩, ?_, er.zh.none hx, fun _ => hx⟩⟩
        rw [orH_none (er.sub.none hx)]
        exact tups_nt ⟨_, e, rfl⟩
      · rw [if_neg (fun z => z.elim hf hp)] at q; exact q.elim
theorem de_make {IF : IFn} {k n : Nat} {x : Str} {p pos : Pos} {e : Expr} {es : List Expr} {m : Env → Rz (List EV)} (IG : InG X.prog X.w (kc X C) X.mg X.base k x n IF) (hr : Room (k + 1) X.A) (tk : Takes X W) (ha : DA X C W (e :: es) m) (hg : Gl X x := by rfl) (hdb : (x == ("__debug__" : Str)) = false := by decide)
    (he : starEach (e :: es) X.env = (false, eval e X.env) :: starEach es X.env := by rfl) (hpl : (backTo pos (starEach es X.env)).any (·.1) = false := by rfl) : DE X C W (.Call (.Name x p) (e :: es) [] pos) (mMake x n IF m) := by
  obtain ⟨Ca, f, fd, ps, hm, hC, M, FO, hb⟩ := IG
  exact ⟨PE.imp (pe_makeS M FO hr hb tk hg hm ha.pa hdb he hpl) fun σ H Q h => tA_seq (f := fun evs _ => if evs.length = n then appI x IF evs else .stuck) h fun Z G1 H1 env vs a er va hs q x' dx hx hdx hne => by
    by_cases hn : a.length = n
    · rw [if_pos hn] at q
      exact ask_init er va hn hC q x' dx hx hdx hne
    · rw [if_neg hn] at q; exact q.elim⟩
end
end DL
namespace DL
open PySem PySem.Spec PyProof.Rows L2
def MeG (P : Program) (w : World) (K : KC) (mg : Str → Option Value) (base : Heap) (k : Nat) (c m : Str) (n : Nat) (F : Fn) : Prop :=
  ∃ (Ca f : Addr) (fd : FuncData) (ps : List Str), K.C.cls c = some Ca ∧ Cls K.K Ca ∧ Meth K.K Ca m f ∧ FnOk P w K.K mg base (L2.CX P w) k f fd ps (spD K n F) ∧ Binds K.K fd ps []
theorem MeG.cx {P : Program} {w : World} {K : PySem.W.Frag} {C C' : CT} {mg : Str → Option Value} {base : Heap} {k n : Nat} {c m : Str} {F : Fn} (h2 : C.cls = C'.cls) (h3 : C.slf = none) (h : MeG P w ⟨K, C⟩ mg base k c m n F) : MeG P w ⟨K, C'⟩ mg base k c m n F := by
  obtain ⟨Ca, f, fd, ps, f1, f2, f3, f4, f5⟩ := h
  exact ⟨Ca, f, fd, ps, h2 ▸ f1, f2, f3, f4.imp fun vs H Q E z => spD_cx (K := ⟨K, C⟩) (K' := ⟨K, C'⟩) rfl h2 h3 z, f5⟩
def insOf (c m : Str) : D → Bool
  | .ins c' fs => decide (c' = c) && (fs.lookup m).isNone
  | _ => false
def mMe (c m : Str) (F : Fn) (n : Nat) (o : Env → Rz EV) (a : Env → Rz (List EV)) : Env → Rz EV := fun env => o env >>= fun x => if insOf c m x.d = true then a env >>= fun xs => if xs.length + 1 = n then appF F (x.fr :: xs) else .stuck else .stuck
section
variable {X : Cx} {C : CT} {W : WX}
def tMethS (Cc : Addr) (m : Str) (sp : Sp) (W : WX) (ta : TE) (t : TA) : TE := fun σ H Q => ta σ H fun x H1 => ∃ a dx fs, x = .ref a ∧ H1 a = some (.ins Cc dx fs) ∧ fs.lookup m = none ∧ t σ H1 fun vs H2 => sp (x :: vs) H2 Q (WE W σ)
section
variable {Cc f : Addr} {m : Str} {k : Nat} {fd : FuncData} {ps : List Str} {sp : Sp} {o e : Expr} {es : List Expr} {ta : TE} {t : TA} {apos pos : Pos} {pl : Sem Bool}
theorem pe_methS (he : PE X o ta) (c : Cls X.K Cc) (hm : Meth X.K Cc m f) (FO : FnOk X.prog X.w X.K X.mg X.base (L2.CX X.prog X.w) k f fd ps sp) (hr : Room k X.A) (hb : Binds X.K fd ps []) (tk : Takes X W) (ha : PA X (e :: es) t)
    (hst : starEach (e :: es) X.env = (false, eval e X.env) :: starEach es X.env) (hpl : (backTo pos (starEach es X.env)).any (·.1) = false)
    (ht : eval (.Call (.Attribute o m apos) (e :: es) [] pos) X.env = (do
      let ov ← eval o X.env
      standAt apos.atName
      let (g, first) ← holding [ov] (getMethod ov m pl)
      callWith pos g first (backTo pos (starEach (e :: es) X.env)) (backToKw pos (keywordEach [] X.env)))) : PE X (.Call (.Attribute o m apos) (e :: es) [] pos) (tMethS Cc m sp W ta t) := ⟨fun pins s σ H Q I h =>
  PySem.W.methodCall_KW (pl := pl) (thn (he.run pins s σ H _ I h) fun u s1 ⟨x, H1, I1, rx, a, dx, fs, ex, ea, l, q⟩ => by
    subst ex
    have eu : u = Value.ref a := rx
    rw [eu]
    exact getmeth_ok I1 ea c hm l (PySem.W.callWith_K (first := [.ref a]) (h₀ := X.base) I.ok.mod.kin hm.kp (thn (ha.run pos pins s1 σ H1 _ I1 q) fun us s2 ⟨vs, H2, I2, r, q2⟩ => ⟨I2.kIn, run_fnS (E := WE W) (us := .ref a :: us) (vs := .ref a :: vs) FO hr hb (passAt tk σ) I2 (.cons rfl r) q2⟩) hst hpl)) ht⟩
theorem pe_methS0 (he : PE X o ta) (c : Cls X.K Cc) (hm : Meth X.K Cc m f) (FO : FnOk X.prog X.w X.K X.mg X.base (L2.CX X.prog X.w) k f fd ps sp) (hr : Room k X.A) (hb : Binds X.K fd ps []) (tk : Takes X W)
    (ht : eval (.Call (.Attribute o m apos) [] [] pos) X.env = (do
      let ov ← eval o X.env
      standAt apos.atName
      let (g, first) ← holding [ov] (getMethod ov m pl)
      callWith pos g first (backTo pos (starEach [] X.env)) (backToKw pos (keywordEach [] X.env)))) : PE X (.Call (.Attribute o m apos) [] [] pos) (tMethS Cc m sp W ta tNil) := ⟨fun pins s σ H Q I h =>
  PySem.W.methodCall_KW (pl := pl) (thn (he.run pins s σ H _ I h) fun u s1 ⟨x, H1, I1, rx, a, dx, fs, ex, ea, l, q⟩ => by
    subst ex
    have eu : u = Value.ref a := rx
    rw [eu]
    exact getmeth_ok I1 ea c hm l (PySem.W.callWith_K0 (first := [.ref a]) I1.kIn hm.kp (run_fnS (E := WE W) (us := [.ref a]) (vs := [.ref a]) FO hr hb (passAt tk σ) I1 (.cons rfl .nil) q))) ht⟩
end
theorem meth_go {c m : Str} {F : Fn} {n : Nat} {Ca : Addr} {mo : Env → Rz EV} {ma : Env → Rz (List EV)} {σ : L2.St} {H : Hp} {Q : VK} (hC : C.cls c = some Ca) (h : tE (kc X C) W (mMe c m F n mo ma) σ H Q) : tMethS Ca m (spD (kc X C) n F) W (tE (kc X C) W mo) (tA (kc X C) W ma) σ H Q := by
  obtain ⟨Z, G, env, er, q⟩ := h
  unfold mMe at q
  refine ⟨Z, G, env, er, ?_⟩
  cases ho : mo env with
  | stuck => rw [ho] at q; exact q.elim
  | exc e => rw [ho] at q; exact q
  | ok a =>
    rw [ho] at q
    simp only [Rz.ok_bind] at q
    intro v G1 H1 x1 va
    by_cases hi : insOf c m a.d = true
    · rw [if_pos hi] at q
      obtain ⟨fs, hd, hl⟩ : ∃ fs, a.d = .ins c fs ∧ fs.lookup m = none := by
        cases hd : a.d with
        | ins c' fs =>
          rw [hd] at hi
          obtain ⟨h1, h2⟩ := He.ba (show (decide (c' = c) && (fs.lookup m).isNone) = true from hi)
          have h3 : c' = c := of_decide_eq_true h1
          subst h3
          exact ⟨fs, rfl, by simpa using h2⟩
        | _ => rw [hd] at hi; cases hi
      obtain ⟨p, Ca', dx, vs, e1, e2, e3, r⟩ := ins_of x1.s va hd
      have hCa : Ca' = Ca := by
        have z : C.cls c = some Ca' := e2
        rw [hC] at z
        exact (Option.some.inj z).symm
      subst hCa
      obtain ⟨G2, x2, s2, va2⟩ := va.fr x1 .refl
      refine ⟨p, dx, vs, e1, e3, r.look_none hl, Z, G2, env, er.ext x2, ?_⟩
      cases hb : ma env with
      | stuck => rw [hb] at q; exact q.elim
      | exc e => rw [hb] at q; exact fun cls d G' H' x3 => q cls d G' H' (x2.trans x3)
      | ok b =>
        rw [hb] at q
        simp only [Rz.ok_bind] at q
        intro us G3 H3 x3 vb
        by_cases hn : b.length + 1 = n
        · rw [if_pos hn] at q
          refine ask_fn (er.ext (x2.trans x3)) (.cons (va2.ext x3) (vb.start x2.h)) (by rw [List.length_cons]; exact hn) ?_
          cases hF : appF F (a.fr :: b) with
          | stuck => rw [hF] at q; exact q
          | exc e => rw [hF] at q; exact fun cls d G' H' x4 => q cls d G' H' (x2.trans (x3.trans x4))
          | ok ev => rw [hF] at q; exact fun v' G' H' x4 k => q v' G' H' (x2.trans (x3.trans x4)) (k.start (x2.trans x3).h)
        · rw [if_neg hn] at q; exact q.elim
    · rw [if_neg hi] at q; exact q.elim
theorem de_me {c m : Str} {F : Fn} {k n : Nat} {o e : Expr} {es : List Expr} {mo : Env → Rz EV} {ma : Env → Rz (List EV)} {apos pos : Pos} {pl : Sem Bool} (MG : MeG X.prog X.w (kc X C) X.mg X.base k c m n F) (hr : Room k X.A) (tk : Takes X W) (ho : DE X C W o mo) (ha : DA X C W (e :: es) ma)
    (hst : starEach (e :: es) X.env = (false, eval e X.env) :: starEach es X.env := by rfl) (hpl : (backTo pos (starEach es X.env)).any (·.1) = false := by rfl)
    (ht : eval (.Call (.Attribute o m apos) (e :: es) [] pos) X.env = (do
      let ov ← eval o X.env
      standAt apos.atName
      let (g, first) ← holding [ov] (getMethod ov m pl)
      callWith pos g first (backTo pos (starEach (e :: es) X.env)) (backToKw pos (keywordEach [] X.env))) := by rfl) : DE X C W (.Call (.Attribute o m apos) (e :: es) [] pos) (mMe c m F n mo ma) := by
  obtain ⟨Ca, f, fd, ps, hC, hc, hm, FO, hb⟩ := MG
  exact ⟨PE.imp (pe_methS (pl := pl) ho.pe hc hm FO hr hb tk ha.pa hst hpl ht) fun σ H Q h => meth_go hC h⟩
theorem de_me0 {c m : Str} {F : Fn} {k n : Nat} {o : Expr} {mo : Env → Rz EV} {apos pos : Pos} {pl : Sem Bool} (MG : MeG X.prog X.w (kc X C) X.mg X.base k c m n F) (hr : Room k X.A) (tk : Takes X W) (ho : DE X C W o mo)
    (ht : eval (.Call (.Attribute o m apos) [] [] pos) X.env = (do
      let ov ← eval o X.env
      standAt apos.atName
      let (g, first) ← holding [ov] (getMethod ov m pl)
      callWith pos g first (backTo pos (starEach [] X.env)) (backToKw pos (keywordEach [] X.env))) := by rfl) : DE X C W (.Call (.Attribute o m apos) [] [] pos) (mMe c m F n mo mNil) := by
  obtain ⟨Ca, f, fd, ps, hC, hc, hm, FO, hb⟩ := MG
  refine ⟨PE.imp (pe_methS0 (pl := pl) ho.pe hc hm FO hr hb tk ht) fun σ H Q h => ?_⟩
  obtain ⟨Z, G, env, er, q⟩ := meth_go hC h
  refine ⟨Z, G, env, er, ?_⟩
  cases hm : mo env with
  | stuck => rw [hm] at q; exact q
  | exc e => rw [hm] at q; exact q
  | ok a =>
    rw [hm] at q
    intro v G1 H1 x1 va
    obtain ⟨p, dx, fs, e1, e2, e3, Z2, G2, env2, er2, q2⟩ := q v G1 H1 x1 va
    exact ⟨p, dx, fs, e1, e2, e3, q2 [] G2 H1 (.refl er2.sub) .nil⟩
end
end DL
namespace DL
open PySem PySem.Spec PyProof.Rows L2
def seqD : EV → Option (List D)
  | .fz (.lst ds) => some ds
  | .fz (.tup ds) => some ds
  | .fz (.scr ns) => some (ns.map .int)
  | .ow _ (.lst ds) => some ds
  | _ => none
def gTuple : List EV → Rz EV
  | [a] => orStuck (seqD a) >>= fun ds => .ok (.fz (.tup ds))
  | _ => .stuck
def gList : List EV → Rz EV
  | [a] => orStuck (seqD a) >>= fun ds => .ok (.ow true (.lst ds))
  | _ => .stuck
@[simp] theorem gTuple_one (a : EV) : gTuple [a] = orStuck (seqD a) >>= fun ds => .ok (.fz (.tup ds)) := rfl
@[simp] theorem gList_one (a : EV) : gList [a] = orStuck (seqD a) >>= fun ds => .ok (.ow true (.lst ds)) := rfl
theorem ne_gTuple : NoExcL gTuple := ⟨fun a e h => by
  unfold gTuple at h
  split at h
  · exact noexc_bind (fun _ _ z => by cases z) e h
  · cases h⟩
theorem ne_gList : NoExcL gList := ⟨fun a e h => by
  unfold gList at h
  split at h
  · exact noexc_bind (fun _ _ z => by cases z) e h
  · cases h⟩
theorem seq_of {K : KC} {Z : Ent} {Hs G H : Hp} {v : V} {a : EV} {ds : List D} (s : Sub G H) (va : EVok K Z Hs G H v a) (h : seqD a = some ds) : ∃ p us, v = .ref p ∧ (SqL K.K H p us ∨ (a = .fz (.tup ds) ∧ SqT K.K H p us)) ∧ Reps K G us ds := by
  unfold seqD at h
  split at h
  · cases h
    have va' : Rep K G v (.lst ds) := va
    cases va' with
    | lst e r => exact ⟨_, _, rfl, .inl (.of (s _ _ e)), r⟩
  · cases h
    have va' : Rep K G v (.tup ds) := va
    cases va' with
    | tup e r => exact ⟨_, _, rfl, .inr ⟨rfl, s.sqT e⟩, r⟩
  · rename_i ns
    cases h
    have va' : Rep K G v (.scr ns) := va
    cases va' with
    | scr e => exact ⟨_, _, rfl, .inl (s.sqL e), Reps.ints ns⟩
  · cases h
    obtain ⟨p, e, ⟨us, e', r⟩, _⟩ := va
    exact ⟨p, us, e, .inl (.of e'), r⟩
  · cases h
section
variable {X : Cx} {C : CT} {W : WX}
theorem cd_tuple : CallD X C (.type "tuple") gTuple := ⟨_, call_tuple_of, fun Z G H Hs vs evs ev Q s zh va hg q => by
  unfold gTuple at hg
  split at hg
  · rename_i a
    obtain ⟨v, rfl, k⟩ := evs1 va
    cases hd : seqD a with
    | none => rw [hd] at hg; cases hg
    | some ds =>
      rw [hd] at hg
      cases hg
      obtain ⟨p, us, e, sq, r⟩ := seq_of s k hd
      subst e
      rcases sq with sq | ⟨ea, sq⟩
      · exact ⟨p, us, rfl, .inl ⟨sq, fun l hl => q _ _ _ (.lay2 s hl) (.tup (.inl (.of upd_same)) (r.mono (.upd (s.none hl))))⟩⟩
      · subst ea
        exact ⟨p, us, rfl, .inr ⟨sq, q _ G H (.refl s) k⟩⟩
  · cases hg⟩
theorem cd_list : CallD X C (.type "list") gList := ⟨_, call_list_of, fun Z G H Hs vs evs ev Q s zh va hg q => by
  unfold gList at hg
  split at hg
  · rename_i a
    obtain ⟨v, rfl, k⟩ := evs1 va
    cases hd : seqD a with
    | none => rw [hd] at hg; cases hg
    | some ds =>
      rw [hd] at hg
      cases hg
      obtain ⟨p, us, e, sq, r⟩ := seq_of s k hd
      subst e
      exact ⟨p, us, rfl, sq.elim .inl fun z => .inr z.2, fun l hl => q _ _ _ (.lay s hl) ⟨l, rfl, ⟨us, upd_same, r⟩, s.none hl, zh.none hl, fun _ => hl⟩⟩
  · cases hg⟩
def mIns (i : Nat) (m : Env → Rz (List EV)) : Env → Out := fun env => match env.getD i .no with
  | .own (.lst ds) => (match m env with
    | .ok [.fz (.int j), .fz d] => if (0 ≤ j ∧ j.natAbs < 9223372036854775808) ∧ ds.length < sizeLine then .nx (env.set i (.own (.lst (ds.take j.toNat ++ [d] ++ ds.drop j.toNat)))) else .stuck
    | .exc e => .exc e env
    | _ => .stuck)
  | _ => .stuck
theorem ds_ins (i : Nat) {x : Str} {ea eb : Expr} {m : Env → Rz (List EV)} {xp apos cpos pos : Pos} (ha : DA X C W [ea, eb] m) (hN : X.N[i]? = some x := by rfl) (hv : Vis X.env.scope x := by first | exact Or.inl rfl | exact Or.inr (Or.inl rfl) | exact Or.inr (Or.inr rfl)) (hd : (x == ("__debug__" : Str)) = false := by decide)
    (hcd : (x == ("__classdict__" : Str)) = false := by decide)
    (hbase : attributeBase (.Name x xp) "insert" X.env (eval (.Name x xp) X.env) = eval (.Name x xp) X.env := by rfl)
    (hfew : ((backTo cpos (starEach [ea, eb] X.env)).all (fun x => !x.1) && (backToKw cpos (keywordEach [] X.env)).all (fun x => x.1.isSome)
      && decide ([ea, eb].length + ([] : List Keyword).length + (if ([] : List Keyword).isEmpty then 0 else 1) < 30)) = true := by rfl)
    (hline : (apos.endLine == cpos.line) = true := by rfl) (hs : starEach [ea, eb] X.env = (false, eval ea X.env) :: starEach [eb] X.env := by rfl) (hplain : (backTo cpos (starEach [eb] X.env)).any (·.1) = false := by rfl)
    (hsw : swapsWith (.Call (.Attribute (.Name x xp) "insert" apos) [ea, eb] [] cpos) none pos.line X.env = pure false := by rfl) :
    DS X C W (.Expr (.Call (.Attribute (.Name x xp) "insert" apos) [ea, eb] [] cpos) pos) (mIns i m) :=
  ⟨PS.imp (ps_expr (pe_bm PySem.F.plainAttrs_list PySem.F.slot_list_insert PySem.F.type_list_insert mt_insert (pe_var hN hv hd hcd) ha.pa hbase hfew hline hs hplain) hsw) fun D σ H ⟨Z, G, env, er, q⟩ => by
    unfold mIns at q
    split at q
    · rename_i ds hi
      have hi := getD_some hi (by simp)
      obtain ⟨v, h1, p, rfl, us, h3, h4⟩ := er.at' i _ hi
      refine ⟨.ref p, h1, tyV_list h3, Z, G, env, er, ?_⟩
      split at q
      · rename_i j d hm
        rw [hm]
        intro ys G1 H1 x1 va
        by_cases hz : (0 ≤ j ∧ j.natAbs < 9223372036854775808) ∧ ds.length < sizeLine
        · rw [if_pos hz] at q
          obtain ⟨⟨h0, hj⟩, hl⟩ := hz
          cases va with
          | cons a b => cases b with
            | cons b c =>
              cases c
              have ea : _ = V.int j := rep_int a
              subst ea
              have hH1 := x1.h _ _ h3
              have h4' := h4.mono x1.g
              refine ⟨p, us, j, _, rfl, rfl, hH1, by rw [h4.length]; exact hl, h0, ?_, q _ _ G1 x1.g ((er.ext x1).put hi h1 ⟨_, upd_same, ?_⟩)⟩
              · have e63 : (2 : Int) ^ 63 = ((9223372036854775808 : Nat) : Int) := by decide +kernel
                rw [e63, ← Int.natAbs_of_nonneg h0]
                exact Int.ofNat_lt.mpr hj
              · exact ((h4'.take _).append (.cons b .nil)).append (h4'.drop _)
        · rw [if_neg hz] at q; exact q.elim
      · rename_i e hm
        rw [hm]
        exact fun cls d G' H' x k => q σ H' G' cls d x.g (er.ext x) k
      · exact q.elim
    · exact q.elim⟩
end
end DL
namespace DL
open PySem PySem.Spec PyProof.Rows L2
def negD : EV → Rz EV
  | .fz (.int i) => .ok (.fz (.int (-i)))
  | _ => .stuck
def mNeg (m : Env → Rz EV) : Env → Rz EV := fun env => m env >>= negD
def revD (a : EV) : Rz EV := match a.d with
  | .lst ds => .ok (.ow true (.lst ds.reverse))
  | .scr ns => .ok (.ow true (.lst (ns.map D.int).reverse))
  | _ => .stuck
def mRev (m : Env → Rz EV) : Env → Rz EV := fun env => m env >>= revD
section
variable {X : Cx} {C : CT} {W : WX}
theorem one_go {m : Env → Rz EV} {g : EV → Rz EV} {σ : L2.St} {H : Hp} {Q : VK} {R : V → Hp → Prop} (hg : ∀ a e, g a ≠ .exc e) (h : tE (kc X C) W (fun env => m env >>= g) σ H Q)
    (hr : ∀ (Z : Ent) (G1 H1 : Hp) (v : V) (a : EV), Sub G1 H1 → Sub Z.H H1 → EVok (kc X C) Z H G1 H1 v a → (match g a with
      | .ok ev => ∀ v G' H', Ext G1 H1 G' H' → EVok (kc X C) Z H1 G' H' v ev → Q v H'
      | _ => False) → R v H1) : tE (kc X C) W m σ H R := by
  obtain ⟨Z, G, env, er, q⟩ := h
  refine ⟨Z, G, env, er, ?_⟩
  cases hm : m env with
  | stuck => simp only [hm] at q; exact q.elim
  | exc e => simp only [hm] at q; exact q
  | ok a =>
    simp only [hm, Rz.ok_bind] at q
    intro v G1 H1 x1 va
    refine hr Z G1 H1 v a x1.s (er.zh.trans x1.h) va ?_
    cases hq : g a with
    | stuck => rw [hq] at q; exact q
    | exc e => exact absurd hq (hg a e)
    | ok ev => rw [hq] at q; exact fun v' G' H' x2 k => q v' G' H' (x1.trans x2) (k.start x1.h)
theorem negD_exc (a : EV) (e : Exn) : negD a ≠ .exc e := by unfold negD; split <;> simp
theorem revD_exc (a : EV) (e : Exn) : revD a ≠ .exc e := by unfold revD; split <;> simp
theorem de_neg {e : Expr} {m : Env → Rz EV} {pos : Pos} (he : DE X C W e m) : DE X C W (.UnaryOp .USub e pos) (mNeg m) :=
  ⟨PE.imp (pe_un un_neg he.pe) fun σ H Q h => one_go negD_exc h fun Z G1 H1 v a s zh va q => by
    unfold negD at q
    split at q
    · rename_i z
      split at z
      · rename_i i
        cases z
        have e : v = V.int i := rep_int va
        exact ⟨i, e, q _ G1 H1 (.refl s) (.int _)⟩
      · cases z
    · exact q.elim⟩
theorem de_rev {e : Expr} {m : Env → Rz EV} {k : Nat} {p1 p2 p3 pos : Pos} (he : DE X C W e m) : DE X C W (.Subscript e (.Slice none none (some (.UnaryOp .USub (.Constant (.int 1) k p1) p2)) p3) pos) (mRev m) :=
  ⟨PE.imp (pe_revL he.pe) fun σ H Q h => one_go revD_exc h fun Z G1 H1 v a s zh va q => by
    unfold revD at q
    cases a with
    | fz d =>
      cases d with
      | lst ds =>
        have va' : Rep (kc X C) G1 v (.lst ds) := va
        cases va' with
        | lst e r => exact ⟨_, _, rfl, .inl (.of (s _ _ e)), fun p hp => q _ _ _ (.lay s hp) ⟨p, rfl, ⟨_, upd_same, r.reverse⟩, s.none hp, zh.none hp, fun _ => hp⟩⟩
      | scr ns =>
        have va' : Rep (kc X C) G1 v (.scr ns) := va
        cases va' with
        | scr e => exact ⟨_, _, rfl, s.sqL e, fun p hp => q _ _ _ (.lay s hp) ⟨p, rfl, ⟨_, upd_same, (Reps.ints ns).reverse⟩, s.none hp, zh.none hp, fun _ => hp⟩⟩
      | _ => exact q.elim
    | ow n w =>
      cases w with
      | lst ds =>
        obtain ⟨p0, e, ⟨us, e', r⟩, _⟩ := va
        exact ⟨p0, us, e, .inl (.of e'), fun p hp => q _ _ _ (.lay s hp) ⟨p, rfl, ⟨_, upd_same, r.reverse⟩, s.none hp, zh.none hp, fun _ => hp⟩⟩
      | _ => exact q.elim⟩
def finO : Out → Out
  | .nx env => .nx (env.map unX)
  | .bk env => .bk (env.map unX)
  | .ct env => .ct (env.map unX)
  | .ret ev => .ret ev
  | _ => .stuck
def mTryO (S : Str → Option Bool) (mb ms : Env → Out) : Env → Out := fun env => match mb env with
  | .exc e env1 => (match S e.cls with
    | some true => finO (ms env1)
    | some false => .exc e env1
    | none => .stuck)
  | o => o
theorem ds_tryO {x : Str} {c : Value} {S : Str → Option Bool} {b₀ : Stmt} {body suite : List Stmt} {np pos' pos : Pos} {mb ms : Env → Out} (hC : C.ex = none) (hs : X.stack = X.env :: X.outer) (hf : X.env.frame = some X.env.locals)
    (hc : Names X x c) (hS : ∀ (y : Str) (a : Addr) (b : Bool), S y = some b → C.cls y = some a → PySem.W.exmOne X.K (.ref a) c = some b) (tk : Takes X W)
    (hb : ∀ (W : WX) (pn : List (Addr × Obj)) (xe : Value → Shared → Prop), Takes (X.tr pn xe) W → PassesOwn (model X.prog X.w) X.A X.env xe → DSs (X.tr pn xe) C W body mb)
    (hsu : ∀ (a : Addr) (oe : Obj) (Ca : Addr) (d : Option Addr) (pn : List (Addr × Obj)), Zc (.ref Ca) d oe → (∃ vs, oe.data = .fields vs) → DSs (X.suite a ((a, oe) :: pn)) ⟨C.cls, some (a, Ca, d), C.slf⟩ W0x (b₀ :: suite) ms) :
    DS X C W (.Try body [.ExceptHandler (some (.Name x np)) none (b₀ :: suite) pos'] [] [] pos) (mTryO S mb ms) := by
  refine ⟨PS.imp (ps_try_only (tb := fun W => tS (kc X C) W mb) (ts := fun a cls d => fun D σ H => ∃ Ca, cls = .ref Ca ∧ tS ⟨X.K, ⟨C.cls, some (a, Ca, d), C.slf⟩⟩ W0x ms D σ H) hs hf hc tk (fun W pn xe h1 h2 => (hb W pn xe h1 h2).pss) (fun a oe cls d pn hz hv => ⟨fun pins s σ H D I ⟨Ca, e, h⟩ => ?_⟩)) fun D σ H ⟨Z, G, env, er, q⟩ => ⟨Z, G, env, er, ?_⟩⟩
  · subst e
    exact (hsu a oe Ca d pn hz hv).pss.run pins s σ H D I h
  · unfold mTryO at q
    cases hm : mb env with
    | nx e => rw [hm] at q; exact q
    | bk e => rw [hm] at q; exact q
    | ct e => rw [hm] at q; exact q
    | ret e => rw [hm] at q; exact q
    | stuck => rw [hm] at q; exact q.elim
    | exc e env1 =>
      rw [hm] at q
      dsimp only at q
      intro σ1 H1 G1 cls d sg er1 ko
      obtain ⟨Ca, k1, rfl, k3⟩ := id ko
      cases hSe : S e.cls with
      | none => rw [hSe] at q; exact q.elim
      | some b =>
        rw [hSe] at q
        refine ⟨b, hS _ _ _ hSe k1, fun hb1 a ha => ?_, fun hb0 => ?_⟩
        · subst hb1
          dsimp only at q
          refine ⟨Ca, rfl, Z, G1, _, ER.cx (K := kc X C) (K' := ⟨X.K, ⟨C.cls, some (a, Ca, d), C.slf⟩⟩) rfl rfl (fun _ z => z) hC er1, ?_⟩
          have un : ∀ {σ3 : L2.St} {H3 G3 : Hp} {e3 : Env}, ER ⟨X.K, ⟨C.cls, some (a, Ca, d), C.slf⟩⟩ Z G3 H3 σ3 e3 → ER (kc X C) Z G3 H3 σ3 (e3.map unX) := fun er3 => ER.unX (K := ⟨X.K, ⟨C.cls, some (a, Ca, d), C.slf⟩⟩) (K' := kc X C) rfl rfl (fun _ z => z) er3
          cases hq : ms env1 with
          | nx e3 => rw [hq] at q; exact fun σ3 H3 G3 s3 er3 => q _ _ _ (sg.trans s3) (un er3)
          | bk e3 => rw [hq] at q; exact fun σ3 H3 G3 s3 er3 => q _ _ _ (sg.trans s3) (un er3)
          | ct e3 => rw [hq] at q; exact fun σ3 H3 G3 s3 er3 => q _ _ _ (sg.trans s3) (un er3)
          | ret ev => rw [hq] at q; exact fun σ3 env3 v H3 G3 Hs s3 er3 hz va => q _ _ v _ _ Hs (sg.trans s3) (un er3) hz (EVok.cx (K := ⟨X.K, ⟨C.cls, some (a, Ca, d), C.slf⟩⟩) (K' := kc X C) rfl rfl (fun _ z => z) va)
          | exc e' env' => rw [hq] at q; exact q.elim
          | stuck => rw [hq] at q; exact q.elim
        · subst hb0
          dsimp only at q
          exact q σ1 H1 G1 _ d sg er1 ko
end
end DL
namespace DS
open PySem PySem.Spec PyProof.Rows L2
def kOf : Value → Key
  | .int i _ => .inl i
  | .str x _ => .inr x
  | _ => .inl 0
abbrev eK (e : Int × Value) : Key := kOf e.2
def EntOk (w : World) (e : Int × Value) : Prop := keyIs (eK e) e.2 = true ∧ e.1 = keyH w (eK e)
theorem kOf_is {k : Key} {v : Value} (h : keyIs k v = true) : kOf v = k := by
  rcases keyIs_shape h with ⟨i, t, rfl, rfl⟩ | ⟨x, t, rfl, rfl⟩ <;> rfl
theorem is_scan {k : Key} {v : Value} (h : keyIs k v = true) : v.scannable = true := by
  rcases keyIs_shape h with ⟨i, t, rfl, rfl⟩ | ⟨x, t, rfl, rfl⟩ <;> rfl
def SetW (w : World) (h : Heap) (a : Addr) (S : Key → Bool) (n : Nat) : Prop :=
  ∃ o es ep t, h.get? a = some o ∧ (o.ExactSet ∧ o.data = .set es ep t) ∧ ((∀ e ∈ es.toList, EntOk w e) ∧ (es.toList.map eK).Nodup ∧ ∀ k, S k = true ↔ k ∈ es.toList.map eK) ∧
    (es.size < scanBound ∧ t.fits es.size = true ∧ es.size = n) ∧ Ris t.place.toList ∧ (w.params.followText "set-order" = true ∨ t.led = true)
section
variable {P : Program} {w : World} {h h' : Heap} {a : Addr} {S : Key → Bool} {n : Nat}
theorem SetW.at (R : SetW w h a S n) (k : ∀ o, h.get? a = some o → h'.get? a = some o) : SetW w h' a S n :=
  let ⟨o, es, ep, t, ho, r⟩ := R
  ⟨o, es, ep, t, k o ho, r⟩
theorem SetW.congr {S' : Key → Bool} (R : SetW w h a S n) (e : ∀ k, S' k = S k) : SetW w h a S' n := (funext e : S' = S) ▸ R
theorem ents {l : List (Int × Value)} (g : ∀ e ∈ l, EntOk w e) : ElemsOf (mixKind P w) l := fun e he => ⟨⟨eK e, (g e he).1, (g e he).2⟩, is_scan (g e he).1⟩
theorem ent_is {e : Int × Value} (g : EntOk w e) (k : Key) : (mixKind P w).is k e.2 = true ↔ eK e = k := ⟨fun q => kOf_is q, fun q => q ▸ g.1⟩
theorem ent_mem {l : List (Int × Value)} (g : ∀ e ∈ l, EntOk w e) (k : Key) : k ∈ l.map eK ↔ ∃ e ∈ l, (mixKind P w).is k e.2 = true :=
  List.mem_map.trans ⟨fun ⟨e, he, q⟩ => ⟨e, he, (ent_is (g e he) k).2 q⟩, fun ⟨e, he, q⟩ => ⟨e, he, (ent_is (g e he) k).1 q⟩⟩
theorem SetW.setOf (R : SetW w h a S n) : h.SetOf (mixKind P w) a S n :=
  let ⟨o, es, ep, t, ho, ⟨hx, hd⟩, ⟨g, _, hm⟩, ⟨hb, hf, hn⟩, _⟩ := R
  ⟨o, es, ep, t, ho, hx, hd, ents g, fun k => (hm k).trans (ent_mem g k), hb, hf, hn⟩
end
section
variable {P : Program} {w : World} {A : Around} {E : Value → Shared → Prop} {s : Shared} {a : Addr} {S : Key → Bool} {n : Nat}
theorem tail_add {g : Bool → Sem Unit} (hg : ∀ (b : Bool) (z : Shared) (Q' : Unit → Shared → Prop), Q' () z → wpAny (model P w) A (g b) Q' E z)
    {o : Obj} {es : Array (Int × Value)} {ep : Nat} {t : SetTable} (ho : s.heap.get? a = some o) (hex : o.ExactSet) (hd : o.data = .set es ep t) {e1 : Array (Int × Value)} {t2 : SetTable} {S' : Key → Bool}
    (b1 : (∀ e ∈ e1.toList, EntOk w e) ∧ (e1.toList.map eK).Nodup ∧ ∀ k, S' k = true ↔ k ∈ e1.toList.map eK) (hb1 : e1.size < scanBound) (hf2 : t2.fits e1.size = true) (hr : Ris t2.place.toList)
    (hl : w.params.followText "set-order" = true ∨ t2.led = true) {dm : Bool} {R : Option Bool → Shared → Prop} (hR : ∀ h', Heap.SameBut a s.heap h' → SetW w h' a S' e1.size → R (some true) { s with heap := h' }) :
    wpAny (model P w) A (do
      storeSet a e1 t2
      if (!dm && t2.tooFull) = true then do
          g (relayAll t2 e1 (SetTable.grown e1.size)).2.2
          storeSet a (relayAll t2 e1 (SetTable.grown e1.size)).1 (relayAll t2 e1 (SetTable.grown e1.size)).2.1
          pure (some true)
        else pure (some true)) R E s := by
  refine wpAny_bind (wpAny_storeSet_of ho hd ?_ (fits_of_scanBound hb1))
  have o1 := store_at (es' := e1) (t' := t2) ho hd
  have w1 := Heap.SameBut.update s.heap a (Obj.putSet e1 t2)
  split
  · have pm := relayAll_perm t2 e1 (SetTable.grown e1.size)
    have f3 := relayAll_fits t2 e1 (SetTable.grown e1.size)
    have r3 := relayAll_ris t2 e1 (SetTable.grown e1.size)
    have l3 := relayAll_led t2 e1 (SetTable.grown e1.size)
    generalize relayAll t2 e1 (SetTable.grown e1.size) = Z at pm f3 r3 l3 ⊢
    obtain ⟨e2, t3, gv⟩ := Z
    dsimp only at pm f3 r3 l3 ⊢
    have hz : e2.size = e1.size := by rw [← Array.length_toList, pm.length_eq, Array.length_toList]
    have hz2 : e2.size < scanBound := hz ▸ hb1
    refine wpAny_bind (hg _ _ _ (wpAny_bind (wpAny_storeSet_of o1 rfl ?_ (fits_of_scanBound hz2))))
    have o2 := store_at (es' := e2) (t' := t3) o1 rfl
    refine wpAny_pure (hR _ (w1.trans (Heap.SameBut.update _ a _)) ⟨_, e2, _, t3, o2, ⟨hex, rfl⟩, ⟨fun e he => b1.1 e (pm.mem_iff.mp he), (pm.map eK).nodup_iff.mpr b1.2.1, fun k => (b1.2.2 k).trans (pm.map eK).mem_iff.symm⟩, ⟨hz2, f3, hz⟩, r3, hl.imp id fun z => by rw [l3]; exact z⟩)
  · exact wpAny_pure (hR _ w1 ⟨_, e1, _, t2, o1, ⟨hex, rfl⟩, b1, ⟨hb1, hf2, rfl⟩, hr, hl⟩)
theorem add_hashed {k : Key} {v : Value} (hv : keyIs k v = true) {Q : Bool → Shared → Prop} (R : SetW w s.heap a S n) (room : n + 1 < scanBound)
    (hQ : ∀ h', Heap.SameBut a s.heap h' → SetW w h' a (fun j => S j || decide (j = k)) (if S k = true then n else n + 1) → Q (!S k) { s with heap := h' }) :
    wpAny (model P w) A (setAddHashed a v ((mixKind P w).hash k)) Q E s := by
  obtain ⟨o, es, ep, t, ho, ⟨hex, hd⟩, ⟨g, nd, hm⟩, ⟨hb, hf, hn⟩, hr, hl⟩ := R
  have hel : ElemsOf (mixKind P w) es.toList := ents g
  unfold setAddHashed setAddHashedIn
  refine wpAny_holding (wpAny_bind (wpAny_setState_of ho hd hf ?_))
  dsimp only
  rw [byScan_of (is_scan hv) hb hel]
  simp only [↓reduceIte]
  unfold setAddByScan
  refine wpAny_bind (wpAny_bind (wpAny_rule (wpAny_bind (wpAny_setScan_of (knd := mixKind P w) hv ho hd hf hel ?_))))
  cases hfi : List.findIdx? (fun e => (mixKind P w).is k e.2) es.toList with
  | some j =>
    obtain ⟨hj, pj, _⟩ := List.findIdx?_eq_some_iff_getElem.mp hfi
    have hSk : S k = true := (hm k).2 ((ent_mem (P := P) g k).2 ⟨es.toList[j], List.getElem_mem hj, pj⟩)
    dsimp only
    refine wpAny_pure (wpAny_pure ?_)
    have q := hQ s.heap (Heap.SameBut.refl a s.heap) ⟨o, es, ep, t, ho, ⟨hex, hd⟩, ⟨g, nd, fun i => by
      rw [Bool.or_eq_true, decide_eq_true_eq, ← hm i]
      exact ⟨fun z => z.elim id (fun e => e ▸ hSk), .inl⟩⟩, ⟨hb, hf, by rw [if_pos hSk]; exact hn⟩, hr, hl⟩
    rwa [hSk] at q
  | none =>
    have hnk : k ∉ es.toList.map eK := fun z => by
      obtain ⟨e, he, q⟩ := (ent_mem (P := P) g k).1 z
      rw [List.findIdx?_eq_none_iff.mp hfi e he] at q
      cases q
    have hSk : S k = false := Bool.eq_false_iff.mpr fun q => hnk ((hm k).1 q)
    dsimp only
    have gw : ∀ (b : Bool) {z : Shared} {Q' : Unit → Shared → Prop}, Q' () z → wpAny (model P w) A (match b with | true => rule "set.scan.the-table-gave-way" | false => pure ()) Q' E z :=
      fun b z Q' q => by cases b with
        | true => exact wpAny_rule q
        | false => exact wpAny_pure q
    have pm := layNew_perm t es ((mixKind P w).hash k) v
    have f1 := layNew_fits t es ((mixKind P w).hash k) v
    have r1 := layNew_ris t es ((mixKind P w).hash k) v hr
    have l1 := layNew_led t es ((mixKind P w).hash k) v
    generalize layNew t es ((mixKind P w).hash k) v = Z at pm f1 r1 l1 ⊢
    obtain ⟨e1, t1, dm, gv⟩ := Z
    dsimp only at pm f1 r1 l1 ⊢
    rw [Array.toList_push] at pm
    have pc : e1.toList.Perm (((mixKind P w).hash k, v) :: es.toList) := pm.trans (List.perm_append_singleton _ _)
    have pk : (e1.toList.map eK).Perm (k :: es.toList.map eK) := (pc.map eK).trans (by rw [List.map_cons, show eK ((mixKind P w).hash k, v) = k from kOf_is hv])
    have b1 : (∀ e ∈ e1.toList, EntOk w e) ∧ (e1.toList.map eK).Nodup ∧ ∀ i, (S i || decide (i = k)) = true ↔ i ∈ e1.toList.map eK := ⟨fun e he => by
      rcases List.mem_cons.mp (pc.mem_iff.mp he) with z | z
      · subst z; unfold EntOk; rw [show eK ((mixKind P w).hash k, v) = k from kOf_is hv]; exact ⟨hv, rfl⟩
      · exact g e z, pk.nodup_iff.mpr (List.nodup_cons.mpr ⟨hnk, nd⟩), fun i => by
      rw [Bool.or_eq_true, decide_eq_true_eq, hm i, pk.mem_iff, List.mem_cons]
      exact Or.comm⟩
    have hz : e1.size = n + 1 := by rw [← Array.length_toList, pc.length_eq, List.length_cons, Array.length_toList, hn]
    have hb1 : e1.size < scanBound := hz ▸ room
    have led : w.params.followText "set-order" = true ∨ t1.led = true := hl.imp id fun z => l1 ▸ z
    have fin : ∀ h', Heap.SameBut a s.heap h' → SetW w h' a (fun j => S j || decide (j = k)) e1.size → Q true { s with heap := h' } := fun h' sb r => by
      have q := hQ h' sb
      rw [hSk] at q
      exact q (hz ▸ r)
    refine wpAny_bind (gw _ ?_)
    have gr : ∀ (b : Bool) (z : Shared) (Q' : Unit → Shared → Prop), Q' () z → wpAny (model P w) A (if b = true then rule "set.add.the-table-gave-way" else pure ()) Q' E z := fun b z Q' q => by cases b with
      | true => exact wpAny_rule q
      | false => exact wpAny_pure q
    split
    · refine wpAny_bind ?_
      rw [hashByValue_scannable 8 (is_scan hv)]
      refine wpAny_pure (tail_add (fun b z Q' q => ?_) ho hex hd b1 hb1 ?_ ?_ ?_ fun h' sb r => ?_)
      · cases b <;> first | exact wpAny_pure q | exact wpAny_rule q
      · first | (split <;> first | exact f1 | exact SetTable.fits_plain_off f1) | exact f1
      · first | (split <;> exact r1) | exact r1
      · first | (split <;> exact led) | exact led
      · dsimp only; exact wpAny_pure (fin h' sb r)
    · refine wpAny_bind (wpAny_pure ?_)
      simp only [↓reduceIte]
      refine tail_add (fun b z Q' q => ?_) ho hex hd b1 hb1 f1 r1 led fun h' sb r => ?_
      · cases b <;> first | exact wpAny_pure q | exact wpAny_rule q
      · dsimp only; exact wpAny_pure (fin h' sb r)
end
end DS
namespace DS
open PySem PySem.Spec PyProof.Rows L2
def KAre (us : List Value) (ks : List Key) : Prop := us.length = ks.length ∧ ∀ (i : Nat) (u : Value), us[i]? = some u → ∃ k, ks[i]? = some k ∧ keyIs k u = true
def km (j : Key) (ks : List Key) : Bool := ks.any fun k => decide (j = k)
theorem km_iff {j : Key} {ks : List Key} : km j ks = true ↔ j ∈ ks := by
  unfold km
  rw [List.any_eq_true]
  exact ⟨fun ⟨x, hx, q⟩ => (of_decide_eq_true q) ▸ hx, fun h => ⟨j, h, decide_eq_true rfl⟩⟩
abbrev emp (w : World) : Obj := { cls := .type "set", dict := none, data := .set #[] 0 (.fresh 0 0 (!w.params.followText "set-order")) }
theorem emp_at {w : World} {h : Heap} {a : Addr} {S : Key → Bool} (hS : ∀ k, S k = false) (ho : h.get? a = some (emp w)) : SetW w h a S 0 :=
  ⟨_, #[], 0, _, ho, ⟨⟨rfl, rfl, rfl⟩, rfl⟩, ⟨fun e he => by simp at he, by simp, fun k => by simp [hS k]⟩, ⟨by decide, by rfl, rfl⟩, List.Pairwise.nil, by
    show _ ∨ (!w.params.followText "set-order") = true
    cases w.params.followText "set-order" with
    | true => exact .inl rfl
    | false => exact .inr rfl⟩
section
variable {P : Program} {w : World} {A : Around} {E : Value → Shared → Prop} {s : Shared}
theorem upd_loop {I : Addr} {fp wr : List Addr} {G : Array GenState → Array GenState → Prop} {n : Nat} {Pv : Nat → Value → Prop} {St : Nat → Shared → Prop} {R : Result → Shared → Prop}
    (W : WalksS P w A.in1 I fp wr G n Pv St) (S : Addr) (hSf : S ∉ fp) (ks : List Key) (hn : n = ks.length) (hb : ks.length + 1 < scanBound) (hval : ∀ i v, Pv i v → ∃ k, ks[i]? = some k ∧ keyIs k v = true) :
    ∀ (m i : Nat) (s : Shared), n - i = m → i ≤ n → St i s → (∃ c, c ≤ i ∧ SetW w s.heap S (fun j => km j (ks.take i)) c) →
      (∀ z c, Moved (S :: wr) G s z → c ≤ n → SetW w z.heap S (fun j => km j ks) c → R (.ok (.ret .none)) z) →
      codeAny (model P w) A (.builtin "set.update.loop" ⟨[.ref S, .ref I], []⟩) R s := by
  have nSw : S ∉ wr := fun h => hSf (W.sub _ h)
  have sub : ∀ b ∈ wr, b ∈ S :: wr := fun b hb => .tail _ hb
  intro m
  induction m with
  | zero =>
    intro i s hm hi hst ⟨c, hc, hS⟩ hR
    obtain rfl : i = n := by omega
    refine codeAny_builtin F.entry_set_update_loop ?_
    rw [Around.under_plainId F.plain_set_update_loop _]
    show wpAny _ A.in1 (pyNext (.ref I) >>= _) _ _ s; refine wpAny_bind (W.done s _ _ hst fun z hz => ?_)
    show wpAny _ A.in1 (ret Value.none) _ _ z
    rw [show ks.take i = ks from List.take_of_length_le (by omega)] at hS
    exact wpAny_pure (hR z c (hz.mono sub) hc (hS.at fun o e => hz.heap S o nSw e))
  | succ m ih =>
    intro i s hm hi hst ⟨c, hc, hS⟩ hR
    have lt : i < n := by omega
    refine codeAny_builtin F.entry_set_update_loop ?_
    rw [Around.under_plainId F.plain_set_update_loop _]
    show wpAny _ A.in1 (pyNext (.ref I) >>= _) _ _ s; refine wpAny_bind (W.item i s _ _ lt hst fun v z hP hst' hz => ?_)
    obtain ⟨k, hk, hv⟩ := hval i v hP
    have hS' : SetW w z.heap S (fun j => km j (ks.take i)) c := hS.at fun o e => hz.heap S o nSw e
    show wpAny _ A.in1 (holding [v] (setAdd S v) >>= _) _ _ z
    refine wpAny_bind (wpAny_holding ?_)
    unfold setAdd
    refine wpAny_holding (wpAny_bind ((mixKind P w).pyHash (k := k) hv ?_))
    refine add_hashed (s := { z with toks := z.toks + 1 }) hv hS' (by omega) fun h' sb hS2 => ?_
    have hS3 : SetW w h' S (fun j => km j (ks.take (i + 1))) (if km k (ks.take i) = true then c else c + 1) := hS2.congr fun j => by
      rw [List.take_add_one, hk]
      unfold km
      simp
    have hc3 : (if km k (ks.take i) = true then c else c + 1) ≤ i + 1 := by split <;> omega
    refine wpAny_pure ⟨plainId_quiet F.plain_set_update_loop _, ih (i + 1) _ (by omega) lt (W.frame _ z _ _ hst' (Nat.le_succ _) fun b hb o e => ?_) ⟨_, hc3, hS3⟩ fun z2 c2 m2 h2 S2 => hR z2 c2 (Moved.trans W.gtrans ((hz.mono sub).then_heap (Nat.le_succ _) fun b o hb e => ?_) m2) h2 S2⟩
    · rw [sb.2 b fun q : b = S => hSf (q ▸ hb)]; exact e
    · rw [sb.2 b fun q : b = S => hb (q ▸ List.mem_cons_self)]; exact e
theorem call_setL {l : Addr} {items : Array Value} (ks : List Key) {Q : Value → Shared → Prop} (hh : A.handled = none) (hl : s.heap.IsList l items) (hit : KAre items.toList ks) (hb : ks.length + 1 < scanBound)
    (h : ∀ (h' : Heap) (tk c : Nat), SetW w h' s.heap.objs.size (fun j => km j ks) c → c ≤ ks.length → (∀ b o, s.heap.get? b = some o → h'.get? b = some o) → Q (.ref s.heap.objs.size) { s with heap := h', toks := tk }) :
    wpAny (model P w) A (call (.type "set") [.ref l]) Q E s := by
  have hisz : items.size = ks.length := by rw [← hit.1, Array.length_toList]
  obtain ⟨c, tl, hmro⟩ := F.called_set.mro
  have m1 := F.called_set.made; have m2 := F.called_set.sub
  refine wpAny_call (codeAny_of_tree (show wpAny _ _ (callAny (.type "set") _) _ _ _ from ?_))
  refine wpAny_pure ⟨Code.quiet_builtin _ (by decide +kernel), codeAny_builtin F.entry_type_call ?_⟩
  rw [Around.under_plain (weight_type_call_type "set" [.ref l] []) rfl]
  have m3 := F.called_set.notType; have m4 := F.called_set.canCreate; have m5 := F.typeCall_set_1 (.ref l)
  repeat (any_goals (first | assumption | wp_step))
  refine codeAny_mono (code_set_led1 (.ref l) (E := E) (Q₁ := fun obj z => obj = .ref s.heap.objs.size ∧ z = { s with heap := s.heap.push (emp w) }) ⟨rfl, rfl⟩) fun r z hr => ?_
  match r, hr with
  | .error e, hr => exact hr
  | .ok (.next), hr => exact hr.elim
  | .ok (.brk), hr => exact hr.elim
  | .ok (.cont), hr => exact hr.elim
  | .ok (.ret obj), hr =>
    obtain ⟨rfl, rfl⟩ := hr
    have hS : (s.heap.push (emp w)).get? s.heap.objs.size = some (emp w) := Heap.get?_push_size _ rfl
    have hT : Shared.TypeIs { s with heap := s.heap.push (emp w) } (.ref s.heap.objs.size) "set" := ⟨_, hS, rfl⟩
    have i1 := F.called_set.init.lookup; have i2 := F.called_set.init.bind (.ref s.heap.objs.size)
    repeat (any_goals (first | assumption | wp_step))
    refine codeAny_mono (codeAny_call_builtin (R := wants (fun r z => r = .none ∧ ∃ h' tk c, z = { s with heap := h', toks := tk } ∧ SetW w h' s.heap.objs.size (fun j => km j ks) c ∧ c ≤ ks.length ∧
        (∀ b o, s.heap.get? b = some o → h'.get? b = some o)) E) F.called_set.init.plain F.entry_set_init (check_set_init_1 hT ?_)) fun r2 z2 hr2 => ?_
    · obtain ⟨⟨ocls, odict, odata, oslots⟩, hol, hcl, nl, hdl⟩ := hl
      simp only at hcl hdl
      subst hcl; subst hdl
      have hol' : (s.heap.push (emp w)).get? l = some { cls := .type "list", dict := odict, data := .seq items nl, slots := oslots } := Heap.get?_push_of_some _ hol
      have q1 := F.sub_list_set; have q2 := F.sub_list_frozenset
      have q3 : (Value.type "list" == Value.type "dict") = false := by decide
      have hl1 : (s.heap.push (emp w)).IsList l items := ⟨_, hol', rfl, nl, rfl⟩
      unfold Builtin.«set.__init__» noKeywords Builtin.Frozenset.updateFrom
      generalize hPI : pyIter = PI
      wp_walk
      subst hPI
      refine wpAny_pyIter_list hl1 (wpAny_bind (wpAny_runValue ?_))
      have hlS : l < s.heap.objs.size := Heap.lt_size hol
      have hz1 : (s.heap.push (emp w)).objs.size = s.heap.objs.size + 1 := Heap.size_push ..
      have n1 : l ≠ (s.heap.push (emp w)).objs.size := by rw [hz1]; exact Nat.ne_of_lt (Nat.lt_succ_of_lt hlS)
      have n2 : s.heap.objs.size ∉ [(s.heap.push (emp w)).objs.size, l] := by
        rw [hz1]
        simp only [List.mem_cons, List.not_mem_nil, or_false, not_or]
        exact ⟨Nat.ne_of_lt (Nat.lt_succ_self _), Nat.ne_of_gt hlS⟩
      refine upd_loop ((Walks.list (show A.in1.in1.in1.handled = none by simp [hh]) _ l n1 items).toS) s.heap.objs.size n2 ks hisz hb (fun i v hv => hit.2 i v (by rw [Array.getElem?_toList]; exact hv)) (items.size - 0) 0 _ (by omega) (Nat.zero_le _)
        ⟨⟨_, Heap.get?_push_size _ rfl, rfl, rfl⟩, (hl1.push _)⟩ ⟨0, Nat.le_refl 0, emp_at (fun k => by simp [km]) (Heap.get?_push_of_some _ hS)⟩ fun z c' hm hc' hS' => ?_
      obtain ⟨h', g2, d2, tk2, o2⟩ := z
      obtain rfl : g2 = s.gens := hm.gens
      obtain rfl : d2 = s.drawn := hm.drawn
      obtain rfl : o2 = s.os := hm.os
      show wpAny _ _ _ _ _ _
      refine wpAny_pure ?_
      show wpAny _ _ (ret Value.none) _ _ _; refine wpAny_pure ⟨rfl, h', tk2, c', rfl, hS', hisz ▸ hc', fun b o e => ?_⟩
      have hb0 : b < s.heap.objs.size := Heap.lt_size e
      exact hm.heap b o (by
        rw [hz1]
        simp only [List.mem_cons, List.not_mem_nil, or_false, not_or]
        exact ⟨Nat.ne_of_lt hb0, Nat.ne_of_lt (Nat.lt_succ_of_lt hb0)⟩) (Heap.get?_push_of_some _ (Heap.get?_push_of_some _ e))
    · match r2, hr2 with
      | .error e, hr2 => exact hr2
      | .ok (.next), hr2 => exact hr2.elim
      | .ok (.brk), hr2 => exact hr2.elim
      | .ok (.cont), hr2 => exact hr2.elim
      | .ok (.ret r), hr2 =>
        obtain ⟨rfl, h', tk, c', rfl, a1, a2, a3⟩ := hr2
        repeat (any_goals (first | assumption | wp_step))
        exact h _ _ _ a1 a2 a3
theorem call_setT {l : Addr} {items : Array Value} (ks : List Key) {Q : Value → Shared → Prop} (hh : A.handled = none) (hl : s.heap.IsTuple l items) (hit : KAre items.toList ks) (hb : ks.length + 1 < scanBound)
    (h : ∀ (h' : Heap) (tk c : Nat), SetW w h' s.heap.objs.size (fun j => km j ks) c → c ≤ ks.length → (∀ b o, s.heap.get? b = some o → h'.get? b = some o) → Q (.ref s.heap.objs.size) { s with heap := h', toks := tk }) :
    wpAny (model P w) A (call (.type "set") [.ref l]) Q E s := by
  have hisz : items.size = ks.length := by rw [← hit.1, Array.length_toList]
  obtain ⟨c, tl, hmro⟩ := F.called_set.mro
  have m1 := F.called_set.made; have m2 := F.called_set.sub
  refine wpAny_call (codeAny_of_tree (show wpAny _ _ (callAny (.type "set") _) _ _ _ from ?_))
  refine wpAny_pure ⟨Code.quiet_builtin _ (by decide +kernel), codeAny_builtin F.entry_type_call ?_⟩
  rw [Around.under_plain (weight_type_call_type "set" [.ref l] []) rfl]
  have m3 := F.called_set.notType; have m4 := F.called_set.canCreate; have m5 := F.typeCall_set_1 (.ref l)
  repeat (any_goals (first | assumption | wp_step))
  refine codeAny_mono (code_set_led1 (.ref l) (E := E) (Q₁ := fun obj z => obj = .ref s.heap.objs.size ∧ z = { s with heap := s.heap.push (emp w) }) ⟨rfl, rfl⟩) fun r z hr => ?_
  match r, hr with
  | .error e, hr => exact hr
  | .ok (.next), hr => exact hr.elim
  | .ok (.brk), hr => exact hr.elim
  | .ok (.cont), hr => exact hr.elim
  | .ok (.ret obj), hr =>
    obtain ⟨rfl, rfl⟩ := hr
    have hS : (s.heap.push (emp w)).get? s.heap.objs.size = some (emp w) := Heap.get?_push_size _ rfl
    have hT : Shared.TypeIs { s with heap := s.heap.push (emp w) } (.ref s.heap.objs.size) "set" := ⟨_, hS, rfl⟩
    have i1 := F.called_set.init.lookup; have i2 := F.called_set.init.bind (.ref s.heap.objs.size)
    repeat (any_goals (first | assumption | wp_step))
    refine codeAny_mono (codeAny_call_builtin (R := wants (fun r z => r = .none ∧ ∃ h' tk c, z = { s with heap := h', toks := tk } ∧ SetW w h' s.heap.objs.size (fun j => km j ks) c ∧ c ≤ ks.length ∧
        (∀ b o, s.heap.get? b = some o → h'.get? b = some o)) E) F.called_set.init.plain F.entry_set_init (check_set_init_1 hT ?_)) fun r2 z2 hr2 => ?_
    · obtain ⟨⟨ocls, odict, odata, oslots⟩, hol, hcl, nl, hdl⟩ := hl
      simp only at hcl hdl
      subst hcl; subst hdl
      have hol' : (s.heap.push (emp w)).get? l = some { cls := .type "tuple", dict := odict, data := .seq items nl, slots := oslots } := Heap.get?_push_of_some _ hol
      have q1 := F.sub_tuple_set; have q2 := F.sub_tuple_frozenset
      have q3 : (Value.type "tuple" == Value.type "dict") = false := by decide
      have hl1 : (s.heap.push (emp w)).IsTuple l items := ⟨_, hol', rfl, nl, rfl⟩
      unfold Builtin.«set.__init__» noKeywords Builtin.Frozenset.updateFrom
      generalize hPI : pyIter = PI
      wp_walk
      subst hPI
      refine wpAny_pyIter_tuple hl1 (wpAny_bind (wpAny_runValue ?_))
      have hlS : l < s.heap.objs.size := Heap.lt_size hol
      have hz1 : (s.heap.push (emp w)).objs.size = s.heap.objs.size + 1 := Heap.size_push ..
      have n1 : l ≠ (s.heap.push (emp w)).objs.size := by rw [hz1]; exact Nat.ne_of_lt (Nat.lt_succ_of_lt hlS)
      have n2 : s.heap.objs.size ∉ [(s.heap.push (emp w)).objs.size, l] := by
        rw [hz1]
        simp only [List.mem_cons, List.not_mem_nil, or_false, not_or]
        exact ⟨Nat.ne_of_lt (Nat.lt_succ_self _), Nat.ne_of_gt hlS⟩
      refine upd_loop ((Walks.tuple (show A.in1.in1.in1.handled = none by simp [hh]) _ l n1 items).toS) s.heap.objs.size n2 ks hisz hb (fun i v hv => hit.2 i v (by rw [Array.getElem?_toList]; exact hv)) (items.size - 0) 0 _ (by omega) (Nat.zero_le _)
        ⟨⟨_, Heap.get?_push_size _ rfl, rfl, rfl⟩, (hl1.push _)⟩ ⟨0, Nat.le_refl 0, emp_at (fun k => by simp [km]) (Heap.get?_push_of_some _ hS)⟩ fun z c' hm hc' hS' => ?_
      obtain ⟨h', g2, d2, tk2, o2⟩ := z
      obtain rfl : g2 = s.gens := hm.gens
      obtain rfl : d2 = s.drawn := hm.drawn
      obtain rfl : o2 = s.os := hm.os
      show wpAny _ _ _ _ _ _
      refine wpAny_pure ?_
      show wpAny _ _ (ret Value.none) _ _ _; refine wpAny_pure ⟨rfl, h', tk2, c', rfl, hS', hisz ▸ hc', fun b o e => ?_⟩
      have hb0 : b < s.heap.objs.size := Heap.lt_size e
      exact hm.heap b o (by
        rw [hz1]
        simp only [List.mem_cons, List.not_mem_nil, or_false, not_or]
        exact ⟨Nat.ne_of_lt hb0, Nat.ne_of_lt (Nat.lt_succ_of_lt hb0)⟩) (Heap.get?_push_of_some _ (Heap.get?_push_of_some _ e))
    · match r2, hr2 with
      | .error e, hr2 => exact hr2
      | .ok (.next), hr2 => exact hr2.elim
      | .ok (.brk), hr2 => exact hr2.elim
      | .ok (.cont), hr2 => exact hr2.elim
      | .ok (.ret r), hr2 =>
        obtain ⟨rfl, h', tk, c', rfl, a1, a2, a3⟩ := hr2
        repeat (any_goals (first | assumption | wp_step))
        exact h _ _ _ a1 a2 a3
end
end DS
namespace DS
open PySem PySem.Spec PyProof.Rows L2 DL
def Asc (l : List Str) : Prop := l.Pairwise fun a b => a.cps.toList < b.cps.toList
theorem str_eq {a b : Str} (h : a.cps.toList = b.cps.toList) : a = b := by
  cases a; cases b
  congr
  exact Array.toList_inj.mp h
theorem nlt_total {a b : List Nat} (h1 : ¬ a < b) (h2 : ¬ b < a) : a = b := List.le_antisymm (List.not_lt.mp h2) (List.not_lt.mp h1)
theorem asc_of : ∀ {l : List Str}, sortedS l = true → l.Nodup → Asc l := by
  have key : ∀ (l : List Str) (p : Str), risingS p l = true → (p :: l).Nodup → Asc (p :: l) := by
    intro l
    induction l with
    | nil => intro p _ _; exact List.pairwise_singleton _ _
    | cons x r ih =>
      intro p h d
      unfold risingS at h
      rw [Bool.and_eq_true, Bool.not_eq_true', ltCps_eq] at h
      obtain ⟨d1, d2⟩ := List.nodup_cons.mp d
      have i := ih x h.2 d2
      have lt : p.cps.toList < x.cps.toList := by
        by_cases q : p.cps.toList < x.cps.toList
        · exact q
        · exact absurd (str_eq (nlt_total q (of_decide_eq_false h.1))) fun e => d1 (e ▸ List.mem_cons_self)
      refine List.pairwise_cons.mpr ⟨fun y hy => ?_, i⟩
      rcases List.mem_cons.mp hy with rfl | hy
      · exact lt
      · exact List.lt_trans lt ((List.pairwise_cons.mp i).1 y hy)
  intro l h d
  cases l with
  | nil => exact List.Pairwise.nil
  | cons p r => exact key r p h d
theorem asc_ext : ∀ {l m : List Str}, Asc l → Asc m → (∀ x, x ∈ l ↔ x ∈ m) → l = m
  | [], [], _, _, _ => rfl
  | [], y :: m, _, _, h => absurd ((h y).2 List.mem_cons_self) (by simp)
  | x :: l, [], _, _, h => absurd ((h x).1 List.mem_cons_self) (by simp)
  | x :: l, y :: m, hl, hm, h => by
    obtain ⟨a1, a2⟩ := List.pairwise_cons.mp hl
    obtain ⟨b1, b2⟩ := List.pairwise_cons.mp hm
    have e : x = y := by
      rcases List.mem_cons.mp ((h x).1 List.mem_cons_self) with e | e
      · exact e
      rcases List.mem_cons.mp ((h y).2 List.mem_cons_self) with e2 | e2
      · exact e2.symm
      exact absurd (List.lt_trans (b1 x e) (a1 y e2)) (List.lt_irrefl _)
    subst e
    congr 1
    refine asc_ext a2 b2 fun z => ⟨fun q => ?_, fun q => ?_⟩
    · rcases List.mem_cons.mp ((h z).1 (.tail _ q)) with e | e
      · exact absurd (a1 z q) (e ▸ List.lt_irrefl _)
      · exact e
    · rcases List.mem_cons.mp ((h z).2 (.tail _ q)) with e | e
      · exact absurd (b1 z q) (e ▸ List.lt_irrefl _)
      · exact e
def insU (x : Str) : List Str → List Str
  | [] => [x]
  | y :: r => if strLt x y = true then x :: y :: r else if x = y then y :: r else y :: insU x r
def sortU (l : List Str) : List Str := l.foldr insU []
theorem strLt_iff {x y : Str} : strLt x y = true ↔ x.cps.toList < y.cps.toList := by
  exact decide_eq_true_iff
theorem mem_insU {x z : Str} : ∀ {l : List Str}, z ∈ insU x l ↔ z = x ∨ z ∈ l
  | [] => by simp [insU]
  | y :: r => by
    unfold insU
    split
    · simp
    split
    · rename_i h; subst h; simp
    · rw [List.mem_cons, mem_insU, List.mem_cons]
      exact ⟨fun h => h.elim (fun e => .inr (.inl e)) fun h => h.elim .inl fun h => .inr (.inr h), fun h => h.elim (fun e => .inr (.inl e)) fun h => h.elim .inl fun h => .inr (.inr h)⟩
theorem asc_insU {x : Str} : ∀ {l : List Str}, Asc l → Asc (insU x l)
  | [], _ => List.pairwise_singleton _ _
  | y :: r, h => by
    obtain ⟨a1, a2⟩ := List.pairwise_cons.mp h
    unfold insU
    split
    · rename_i q
      have q := strLt_iff.mp q
      exact List.pairwise_cons.mpr ⟨fun z hz => (List.mem_cons.mp hz).elim (fun e => e ▸ q) fun hz => List.lt_trans q (a1 z hz), h⟩
    split
    · exact h
    · rename_i q1 q2
      refine List.pairwise_cons.mpr ⟨fun z hz => ?_, asc_insU a2⟩
      rcases mem_insU.mp hz with e | e
      · subst e
        by_cases q : y.cps.toList < z.cps.toList
        · exact q
        · exact absurd (str_eq (nlt_total (fun e => q1 (strLt_iff.mpr e)) q)) q2
      · exact a1 z e
theorem mem_sortU {z : Str} : ∀ {l : List Str}, z ∈ sortU l ↔ z ∈ l
  | [] => by simp [sortU]
  | x :: l => by
    show z ∈ insU x (sortU l) ↔ _
    rw [mem_insU, mem_sortU, List.mem_cons]
theorem asc_sortU : ∀ (l : List Str), Asc (sortU l)
  | [] => List.Pairwise.nil
  | x :: l => asc_insU (asc_sortU l)
theorem sortU_of {l m : List Str} (h : Asc m) (k : ∀ x, x ∈ m ↔ x ∈ l) : m = sortU l := asc_ext h (asc_sortU l) fun x => (k x).trans mem_sortU.symm
section
variable {P : Program} {w : World} {A : Around} {E : Value → Shared → Prop} {s : Shared} {a : Addr}
def txOf : Value → Str
  | .str x _ => x
  | _ => Str.empty
theorem tx_of {v : Value} {x : Str} (h : keyIs (.inr x) v = true) : ∃ t, v = .str x t := by
  rcases keyIs_shape h with ⟨i, t, e, _⟩ | ⟨y, t, e, q⟩
  · cases e
  · cases e; exact ⟨t, q⟩
theorem sorted_setW {S : Key → Bool} {n : Nat} {Q : Value → Shared → Prop} (R : SetW w s.heap a S n) (hh : A.handled = none) (hn : n ≤ 16777216) (hS : ∀ k, S k = true → ∃ x, k = .inr x)
    (hQ : ∀ z p (out : Array Value) (c : Nat) (ys : List Str), (∀ b o, s.heap.get? b = some o → z.heap.get? b = some o) → z.gens = s.gens → z.os = s.os → s.heap.objs.size ≤ p →
      z.heap.get? p = some (seqObj "list" out c) → StrsAre out.toList ys → Asc ys → (∀ x, x ∈ ys ↔ S (.inr x) = true) → ys.length = n → Q (.ref p) z) :
    wpAny (model P w) A (call (.builtin "sorted") [.ref a]) Q E s := by
  obtain ⟨o, es, ep, t, ho, ⟨hex, hd⟩, ⟨g, nd, hm⟩, ⟨hb, hf, hz⟩, hr, hl⟩ := R
  refine Calls.call_function_entry kind_sorted plain_sorted entry_sorted (args_sorted1 _) ?_
  unfold Builtin.«sorted»
  refine wpAny_bind (m := checkCount "sorted" 1 1 _) (wpAny_pure (wpAny_bind (collect_set (A := A.in1) hh ⟨o, ho, hex.1, hd⟩ hf hb hr hl fun s1 vs k1 z1 g1 o1 pm => ?_)))
  have hvl : vs.length = n := by rw [pm.length_eq, List.length_map, Array.length_toList]; exact hz
  have all : ∀ e ∈ es.toList, eK e = .inr (txOf e.2) ∧ ∃ t, e.2 = .str (txOf e.2) t := fun e he => by
    obtain ⟨x, hx⟩ := hS (eK e) ((hm _).2 (List.mem_map_of_mem he))
    have q := (g e he).1
    rw [hx] at q
    obtain ⟨t, ht⟩ := tx_of q
    refine ⟨?_, t, ?_⟩
    · rw [hx, ht]; rfl
    · rw [ht]; rfl
  have hI : StrsAre vs (vs.map strOf) := strsAre_map vs fun v hv => by
    obtain ⟨e, he, q⟩ := List.mem_map.mp (pm.mem_iff.mp hv)
    obtain ⟨_, t, ht⟩ := all e he
    exact ⟨_, t, q ▸ ht⟩
  have pk : ((vs.map strOf).map Sum.inr).Perm (es.toList.map eK) := by
    have q := (pm.map strOf).map (Sum.inr : Str → Key)
    rw [List.map_map, List.map_map] at q
    refine (by simpa using q : ((vs.map strOf).map Sum.inr).Perm _).trans (.of_eq ?_)
    refine List.map_congr_left fun e he => ?_
    obtain ⟨h1, t, ht⟩ := all e he
    rw [h1]
    show (Sum.inr (strOf e.2) : Key) = _
    rw [ht]; rfl
  refine wpAny_bind (wpAny_newList ?_ (by rw [hvl, sizeLine_eq]; omega))
  have hoL : (s1.heap.push (seqObj "list" vs.toArray 0)).get? s1.heap.objs.size = some (seqObj "list" vs.toArray 0) := Heap.get?_push_size _ rfl
  refine wpAny_bind (wpAny_holding (wpAny_call_entry slot_list_sort ⟨_, hoL, rfl⟩ entry_list_sort (list_sort_treeKAny strKind_oneLt hoL hI.keysOf (fun v₁ v₂ rest e => keyKind_strs (by rw [← e]; exact hI)) (by rw [hvl, sizeLine_eq]; exact hn) fun st' hp hs => ?_) (args_list_sort _)))
  obtain ⟨ys, a1, a2, a3⟩ := sorted_out_str hI hp hs
  obtain ⟨c, hc⟩ := sortedHeap_at (vs := vs) (out := (arrOf st').map (·.2)) hoL
  have pn : (ys.map Sum.inr).Perm (es.toList.map eK) := (a2.map _).trans pk
  have nd2 : ys.Nodup := (pn.nodup_iff.mpr nd).of_map _ fun _ _ h e => h (congrArg Sum.inr e)
  refine ⟨_, rfl, wpAny_pure ⟨_, rfl, hQ _ s1.heap.objs.size ((arrOf st').map (·.2)) c ys (fun b u e => ?_) g1 o1 z1 hc a1 (asc_of a3 nd2) (fun x => ?_) ?_⟩⟩
  · have q := k1 b u e
    have lt := Heap.lt_size q
    show (sortedHeap (s1.heap.push (seqObj "list" vs.toArray 0)) s1.heap.objs.size vs ((arrOf st').map (·.2))).get? b = some u
    rw [sortedHeap_old (Nat.ne_of_lt lt) (by rw [size_push']; exact Nat.lt_succ_of_lt lt)]
    exact Heap.get?_push_of_some _ q
  · rw [hm (.inr x), ← pn.mem_iff, List.mem_map]
    exact ⟨fun h => ⟨x, h, rfl⟩, fun ⟨y, hy, e⟩ => by cases e; exact hy⟩
  · have q := pn.length_eq
    simp only [List.length_map, Array.length_toList] at q
    exact q.trans hz
end
end DS
namespace DS
open PySem PySem.Spec PyProof.Rows L2 DL
def SWO (w : World) (a : Addr) (S : Key → Bool) (n : Nat) : HO := .ext fun h => SetW w h a S n
section
variable {X : Cx}
theorem swo_new {w : World} {P : Program} {H : Hp} {h : Heap} {a : Addr} {S : Key → Bool} {n : Nat} (R : SetW w h a S n) : ObjOk P w H h a (SWO w a S n) :=
  have ⟨o, _, _, _, ho, _⟩ := R
  ⟨R, ⟨o, ho⟩, fun h1 h2 p k => SetW.at p k⟩
theorem swo_get {pins : List (Addr × Obj)} {σ : L2.St} {H : Hp} {s : Shared} {a : Addr} {S : Key → Bool} {n : Nat} (I : Inv X pins σ H s) (ha : H a = some (SWO X.w a S n)) : SetW X.w s.heap a S n := (I.hok a _ ha).1
theorem kare_of {us : List Value} {ks : List Key} (r : Vals (ks.map kV) us) : KAre us ks := by
  refine ⟨by rw [← r.length, List.length_map], fun i u h => ?_⟩
  have hl : i < ks.length := by
    have := (List.getElem?_eq_some_iff.mp h).1
    rw [← r.length, List.length_map] at this
    exact this
  refine ⟨ks[i], List.getElem?_eq_getElem hl, ?_⟩
  obtain ⟨v, e, q⟩ := Vals.get (x := kV ks[i]) r (by rw [List.getElem?_map, List.getElem?_eq_getElem hl]; rfl)
  rw [h] at e; cases e
  cases hk : ks[i] with
  | inl j => rw [hk] at q; obtain ⟨t, rfl⟩ := q; exact keyIs_int j t
  | inr x => rw [hk] at q; obtain ⟨t, rfl⟩ := q; exact keyIs_str x t
def rSetW (K : PySem.W.Frag) (w : World) : List V → Hp → VK → Prop := fun xs H Q => ∃ (l : Addr) (ks : List Key), xs = [V.ref l] ∧ (SqL K H l (ks.map kV) ∨ SqT K H l (ks.map kV)) ∧ ks.length + 1 < scanBound ∧
  ∀ p c, H p = none → c ≤ ks.length → Q (.ref p) (upd H p (SWO w p (fun k => km k ks) c))
theorem cr_setW (hc : X.calm = true) : CallR X (.type "set") (rSetW X.K X.w) := by
  intro pins s σ H xs us Q I r h
  obtain ⟨l, ks, rfl, hl, hb, q⟩ := h
  rw [Vals.ref1 r]
  have fin : ∀ (h' : Heap) (tk c : Nat), SetW X.w h' s.heap.objs.size (fun j => km j ks) c → c ≤ ks.length → (∀ b o, s.heap.get? b = some o → h'.get? b = some o) → EP X pins σ Q (.ref s.heap.objs.size) { s with heap := h', toks := tk } := fun h' tk c R hc k =>
    ⟨.ref s.heap.objs.size, upd H s.heap.objs.size (SWO X.w s.heap.objs.size (fun j => km j ks) c), I.laid (t' := tk) k (Nat.le_refl _) (swo_new R), rfl, q _ c (I.hok.fresh (Nat.le_refl _)) hc⟩
  rcases hl with hl | hl
  · obtain ⟨its, rv, pl, hz⟩ := I.list hl
    exact call_setL (P := X.prog) ks (I.ok.hd hc) pl.isList (by simpa using kare_of rv) hb fin
  · obtain ⟨its, rv, pl, hz⟩ := I.tuple hl
    exact call_setT (P := X.prog) ks (I.ok.hd hc) (show s.heap.IsTuple l its.toArray from pl) (by simpa using kare_of rv) hb fin
def rSortW (w : World) : List V → Hp → VK → Prop := fun vs H Q => ∃ (a : Addr) (S : Key → Bool) (n : Nat), vs = [V.ref a] ∧ H a = some (SWO w a S n) ∧ n ≤ 16777216 ∧ (∀ k, S k = true → ∃ x, k = .inr x) ∧
  ∀ (ys : List Str) (p : Addr), Asc ys → (∀ x, x ∈ ys ↔ S (.inr x) = true) → ys.length = n → H p = none → Q (.ref p) (upd H p (.lst (ys.map V.str)))
theorem cr_sortW (hc : X.calm = true) : CallR X (.builtin "sorted") (rSortW X.w) := by
  intro pins s σ H vs us Q I r h
  obtain ⟨a, S, n, rfl, ha, h64, hS, q⟩ := h
  rw [Vals.ref1 r]
  refine sorted_setW (P := X.prog) (swo_get I ha) (I.ok.hd hc) h64 hS fun z p out c ys k g o hp hg hi hs hm hl => ?_
  have hlen : (ys.map V.str).length ≤ sizeLine := by rw [List.length_map, hl, sizeLine_eq]; exact h64
  have hn : H p = none := I.hok.fresh hp
  have J : Inv X pins σ (upd H p (.lst (ys.map V.str))) { s with heap := z.heap, gens := z.gens, drawn := z.drawn, toks := z.toks } :=
    I.call (ch := []) (Un.laid k hp hn) (I.hok.laid k hp ⟨hlen, out.toList, c, vals_of_strs hi, hg⟩) (by rw [g]; exact I.bare) fun _ z => nomatch z
  have e : z = { s with heap := z.heap, gens := z.gens, drawn := z.drawn, toks := z.toks } := by
    cases z; cases s; cases o; rfl
  rw [e]
  exact ⟨.ref p, _, J, rfl, q ys p hs hm hl hn⟩
end
end DS
namespace DL
open PySem PySem.Spec PyProof.Rows L2
def sortSetD (a : EV) : Rz EV := match a.d with
  | .lst ds => orStuck (strsD ds) >>= fun ys => if ys.length < 4000 then .ok (.ow true (.lst ((DS.sortU ys).map .str))) else .stuck
  | .tup ds => orStuck (strsD ds) >>= fun ys => if ys.length < 4000 then .ok (.ow true (.lst ((DS.sortU ys).map .str))) else .stuck
  | _ => .stuck
def mSortSet (m : Env → Rz EV) : Env → Rz EV := fun env => m env >>= sortSetD
theorem sortSet_inv {ds : List D} {ev : EV} (h : (orStuck (strsD ds) >>= fun ys => if ys.length < 4000 then (Rz.ok (EV.ow true (.lst ((DS.sortU ys).map .str)))) else .stuck) = .ok ev) : ∃ ys : List Str, ds = ys.map D.str ∧ ys.length < 4000 ∧ ev = .ow true (.lst ((DS.sortU ys).map .str)) := by
  cases q : strsD ds with
  | none => rw [q] at h; cases h
  | some ys =>
    rw [q] at h
    simp only [orStuck_some, Rz.ok_bind] at h
    by_cases z : ys.length < 4000
    · rw [if_pos z] at h; cases h; exact ⟨ys, strsD_ok q, z, rfl⟩
    · rw [if_neg z] at h; cases h
theorem sortSet_exc {a : EV} {e : Exn} : sortSetD a ≠ .exc e := by
  unfold sortSetD
  intro h
  have key : ∀ ds : List D, (orStuck (strsD ds) >>= fun ys => if ys.length < 4000 then (Rz.ok (EV.ow true (.lst ((DS.sortU ys).map .str)))) else .stuck) ≠ .exc e := fun ds h => by
    cases q : strsD ds with
    | none => rw [q] at h; cases h
    | some ys =>
      rw [q] at h
      simp only [orStuck_some, Rz.ok_bind] at h
      split at h <;> cases h
  split at h
  · exact key _ h
  · exact key _ h
  · cases h
section
variable {X : Cx} {C : CT} {W : WX}
theorem sortSet_of {K : KC} {H : Hp} {v : V} {a : EV} {ev : EV} (r : Rep K H v a.d) (h : sortSetD a = .ok ev) : ∃ l, ∃ ys : List Str, v = .ref l ∧ (SqL K.K H l ((ys.map (Sum.inr : Str → Key)).map kV) ∨ SqT K.K H l ((ys.map (Sum.inr : Str → Key)).map kV)) ∧ ys.length < 4000 ∧ ev = .ow true (.lst ((DS.sortU ys).map .str)) := by
  unfold sortSetD at h
  split at h
  · rename_i ds e
    obtain ⟨ys, rfl, h1, h2⟩ := sortSet_inv h
    rw [e] at r
    cases r with
    | lst s rs => exact ⟨_, ys, rfl, .inl (by rw [List.map_map, show kV ∘ Sum.inr = V.str from rfl, ← Reps.of_strs rs]; exact .of s), h1, h2⟩
  · rename_i ds e
    obtain ⟨ys, rfl, h1, h2⟩ := sortSet_inv h
    rw [e] at r
    cases r with
    | tup s rs => exact ⟨_, ys, rfl, .inr (by rw [List.map_map, show kV ∘ Sum.inr = V.str from rfl, ← Reps.of_strs rs]; exact s), h1, h2⟩
  · cases h
theorem de_sortSet {e : Expr} {m : Env → Rz EV} {p p2 pos pos2 : Pos} (h : DE X C W e m) (hc : X.calm = true := by rfl) (hm : X.mg "sorted" = none) (hm2 : X.mg "set" = none) (hg : Gl X "sorted" := by rfl) (hg2 : Gl X "set" := by rfl)
    (h1 : starEach [.Call (.Name "set" p2) [e] [] pos2] X.env = [(false, eval (.Call (.Name "set" p2) [e] [] pos2) X.env)] := by rfl) (h2 : starEach [e] X.env = [(false, eval e X.env)] := by rfl) :
    DE X C W (.Call (.Name "sorted" p) [.Call (.Name "set" p2) [e] [] pos2] [] pos) (mSortSet m) :=
  ⟨PE.imp (pe_callB (DS.cr_sortW hc) hg hm (by rfl) (pa_cons (pe_callTy (DS.cr_setW hc) hg2 hm2 (by rfl) (pa_cons h.pe pa_nil h2) (by decide) (by decide) h2 (by rfl)) pa_nil h1) (by decide) (by decide) h1 (by rfl)) fun σ H Q ⟨Z, G, env, er, q⟩ => by
    unfold mSortSet at q
    refine ⟨Z, G, env, er, ?_⟩
    cases ha : m env with
    | stuck => rw [ha] at q; exact q.elim
    | exc e => rw [ha] at q; exact q
    | ok a =>
      rw [ha] at q
      simp only [Rz.ok_bind] at q
      intro v G1 H1 x1 va
      cases hs : sortSetD a with
      | stuck => rw [hs] at q; exact q.elim
      | exc e => exact absurd hs sortSet_exc
      | ok ev =>
        rw [hs] at q
        obtain ⟨l, ys, rfl, hl, hn, rfl⟩ := sortSet_of (va.rep x1.s) hs
        refine ⟨l, ys.map Sum.inr, rfl, hl, by rw [List.length_map]; show _ < 4096; omega, fun p c hp hcn => ?_⟩
        rw [List.length_map] at hcn
        refine ⟨p, _, c, rfl, upd_same, by omega, fun k hk => ?_, fun zs p2 h1 h2 h3 hp2 => ?_⟩
        · obtain ⟨x, _, e⟩ := List.mem_map.mp (DS.km_iff.mp hk)
          exact ⟨x, e.symm⟩
        · have e : zs = DS.sortU ys := DS.sortU_of h1 fun x => by
            rw [h2 x, DS.km_iff, List.mem_map]
            exact ⟨fun ⟨y, hy, e⟩ => by cases e; exact hy, fun h => ⟨x, h, rfl⟩⟩
          subst e
          have y1 : Ext G1 H1 G1 (upd H1 p (DS.SWO X.w p (fun k => DS.km k (ys.map Sum.inr)) c)) := .lay x1.s hp
          have y2 := y1.trans (Ext.lay (o := .lst ((DS.sortU ys).map V.str)) y1.s hp2)
          exact q (.ref p2) _ _ (x1.trans y2) ⟨p2, rfl, ⟨_, upd_same, Reps.strs _⟩, y1.s.none hp2, (er.zh.trans (x1.h.trans y1.h)).none hp2, fun _ => (x1.h.trans y1.h).none hp2⟩⟩
end
end DL
namespace DL
open PySem PySem.Spec PyProof.Rows L2
def crB (K : PySem.W.Frag) (C : Addr) : Bool := PySem.W.readsIn K C (.type "type") && He.eqO (PySem.W.specialIn K (.ref C) "__getattribute__") (some (some (.builtin "type.__getattribute__")))
theorem crB_ok {K : PySem.W.Frag} {C : Addr} (h : crB K C = true) : ClX.CRead K C (.type "type") := ⟨(He.ba h).1, He.eqO_ok (He.ba h).2⟩
def cmA (K : PySem.W.Frag) (C : Addr) (m : Str) : Addr := rcA K C m "classmethod" 0
def cmB (K : PySem.W.Frag) (C : Addr) (m : Str) : Bool := (match PySem.W.findCls K (.ref C) (.type "type") m with
    | some (.get g p ob tp) => decide (g = .builtin "classmethod.__get__" ∧ p = .ref (He.ma K C m) ∧ ob = .none ∧ tp = .ref C)
    | _ => false) && ((match PySem.W.recIn K (He.ma K C m) "classmethod" with
    | some (.ref _ :: _) => true
    | _ => false) && PySem.W.fnIn K (cmA K C m))
theorem cmB_ok {K : PySem.W.Frag} {C : Addr} {m : Str} (h : cmB K C m = true) : ClX.CMet K C (.type "type") m (He.ma K C m) (cmA K C m) := by
  obtain ⟨h1, h2⟩ := He.ba h
  obtain ⟨h2, h3⟩ := He.ba h2
  refine ⟨?_, ?_, h3⟩
  · split at h1
    · rename_i g p ob tp e
      obtain ⟨rfl, rfl, rfl, rfl⟩ := of_decide_eq_true h1
      exact e
    · cases h1
  · unfold cmA
    split at h2
    · rename_i g rest e
      unfold rcA
      rw [e]; exact ⟨rest, rfl⟩
    · cases h2
def CCon (K : PySem.W.Frag) (mg : Str → Option Value) (x f : Str) (d : D) : Prop := ∃ Ca v u, mg x = some (.ref Ca) ∧ ClX.CRead K Ca (.type "type") ∧ ClX.CVal K Ca (.type "type") f v u ∧ ∀ (C : CT) G, Rep ⟨K, C⟩ G v d
def cvS (K : PySem.W.Frag) (C : Addr) (f z : Str) : Bool := crB K C && (match PySem.W.findCls K (.ref C) (.type "type") f with
  | some (.val (.str y _)) => decide (y = z)
  | _ => false)
def cvI (K : PySem.W.Frag) (C : Addr) (f : Str) (i : Int) : Bool := crB K C && (match PySem.W.findCls K (.ref C) (.type "type") f with
  | some (.val (.int y _)) => decide (y = i)
  | _ => false)
theorem cvS_ok {K : PySem.W.Frag} {mg : Str → Option Value} {x f z : Str} {C : Addr} (hm : mg x = some (.ref C)) (h : cvS K C f z = true) : CCon K mg x f (.str z) := by
  obtain ⟨h1, h2⟩ := He.ba h
  split at h2
  · rename_i y t e
    obtain rfl := of_decide_eq_true h2
    exact ⟨C, .str y, _, hm, crB_ok h1, ⟨e, t, rfl⟩, fun _ _ => .str y⟩
  · cases h2
theorem cvI_ok {K : PySem.W.Frag} {mg : Str → Option Value} {x f : Str} {i : Int} {C : Addr} (hm : mg x = some (.ref C)) (h : cvI K C f i = true) : CCon K mg x f (.int i) := by
  obtain ⟨h1, h2⟩ := He.ba h
  split at h2
  · rename_i y t e
    obtain rfl := of_decide_eq_true h2
    exact ⟨C, .int y, _, hm, crB_ok h1, ⟨e, t, rfl⟩, fun _ _ => .int y⟩
  · cases h2
section
variable {X : Cx} {C : CT} {W : WX}
theorem de_cval {x f : Str} {d : D} {p pos : Pos} (h : CCon X.K X.mg x f d) (hg : Gl X x := by rfl) (hdb : (x == ("__debug__" : Str)) = false := by decide) (hb : attributeBase (.Name x p) f X.env (eval (.Name x p) X.env) = eval (.Name x p) X.env := by rfl) :
    DE X C W (.Attribute (.Name x p) f pos) (mC d) := by
  obtain ⟨Ca, v, u, hm, r, k, rep⟩ := h
  refine ⟨⟨fun pins s σ H Q I ⟨Z, G, env, er, q⟩ => attr_of hb (ld_glob I hg hm (ClX.getcval_ok I r k fun s2 I2 => ⟨v, H, I2, k.rel, q v G H (.refl er.sub) (rep C G)⟩) hdb)⟩⟩
end
section
variable {X : Cx} {C : CT} {W : WX}
theorem run_fnRS {pins : List (Addr × Obj)} {σ : L2.St} {H : Hp} {s : Shared} {k : Nat} {f : Addr} {sp : Sp} {Q : VK} {us : List Value} {vs : List V} (FR : FnR X.prog X.w X.K X.mg X.base (L2.CX X.prog X.w) k f sp) (hr : Room k X.A) (tk : Takes X W)
    (I : Inv X pins σ H s) (r : Vals vs us) (h : sp vs H Q (WE W σ)) : wpAny (model X.prog X.w) X.A (call (.ref f) us) (EP X pins σ Q) X.xe s := by
  refine wpAny_call (codeAny_mono (FR X.A X.stack s H us vs Q (WE W σ) hr I.env0 r h) fun res z hq => ?_)
  match res, hq with
  | .error e, hq => exact passAt tk σ pins H s e z I hq
  | .ok (.ret u), hq => exact I.after hq
  | .ok .next, hq => exact hq.elim
  | .ok .brk, hq => exact hq.elim
  | .ok .cont, hq => exact hq.elim
theorem run_cmS {pins : List (Addr × Obj)} {σ : L2.St} {H : Hp} {s : Shared} {k : Nat} {g q Ca : Addr} {sp : Sp} {Q : VK} {us : List Value} {vs : List V} (FR : FnR X.prog X.w X.K X.mg X.base (L2.CX X.prog X.w) k g sp) (hr : Room k X.A) (tk : Takes X W)
    (I : Inv X ((q, PySem.W.methodObj (.ref g) (.ref Ca)) :: pins) σ H s) (r : Vals vs us) (h : sp (.ref Ca :: vs) H Q (WE W σ)) : wpAny (model X.prog X.w) X.A (call (.ref q) us) (EP X pins σ Q) X.xe s := by
  have z : wpAny (model X.prog X.w) X.A (call (.ref q) us) (EP X ((q, PySem.W.methodObj (.ref g) (.ref Ca)) :: pins) σ Q) X.xe s := by
    refine wpAny_call (PySem.W.method_call (ClX.pin_at I) (codeAny_mono (FR X.A X.stack s H (.ref Ca :: us) (.ref Ca :: vs) Q (WE W σ) hr I.env0 (.cons rfl r) h) fun res z hq => ?_))
    match res, hq with
    | .error e, hq => exact passAt tk σ _ H s e z I hq
    | .ok (.ret u), hq => exact I.after hq
    | .ok .next, hq => exact hq.elim
    | .ok .brk, hq => exact hq.elim
    | .ok .cont, hq => exact hq.elim
  exact thn z fun _ _ y => ClX.unpinE y
def tCM (Ca : Addr) (sp : Sp) (W : WX) (t : TA) : TE := fun σ H Q => t σ H fun vs H2 => sp (.ref Ca :: vs) H2 Q (WE W σ)
section
variable {Ca p' g : Addr} {m x : Str} {k : Nat} {sp : Sp} {e : Expr} {es : List Expr} {t : TA} {p apos pos : Pos} {pl : Sem Bool}
theorem pe_cmS (hm : X.mg x = some (.ref Ca)) (r : ClX.CRead X.K Ca (.type "type")) (c : ClX.CMet X.K Ca (.type "type") m p' g) (FR : FnR X.prog X.w X.K X.mg X.base (L2.CX X.prog X.w) k g sp) (hr : Room k X.A) (tk : Takes X W) (ha : PA X (e :: es) t) (hg : Gl X x) (hdb : (x == ("__debug__" : Str)) = false)
    (hst : starEach (e :: es) X.env = (false, eval e X.env) :: starEach es X.env) (hpl : (backTo pos (starEach es X.env)).any (·.1) = false)
    (ht : eval (.Call (.Attribute (.Name x p) m apos) (e :: es) [] pos) X.env = (do
      let ov ← eval (.Name x p) X.env
      standAt apos.atName
      let (f, first) ← holding [ov] (getMethod ov m pl)
      callWith pos f first (backTo pos (starEach (e :: es) X.env)) (backToKw pos (keywordEach [] X.env)))) : PE X (.Call (.Attribute (.Name x p) m apos) (e :: es) [] pos) (tCM Ca sp W t) := ⟨fun pins s σ H Q I h =>
  PySem.W.methodCall_KW (pl := pl) (ld_glob I hg hm (ClX.getmethcm_ok I r c fun s2 I2 => ClX.callwith_cm I2 (ClX.base_none I (Nat.le_refl _)) c.fi (thn (ha.run pos _ s2 σ H _ I2 h) fun us s3 ⟨vs, H2, I3, rv, q2⟩ => ⟨⟨ClX.pin_at I3, I3.kIn⟩, run_cmS FR hr tk I3 rv q2⟩) hst hpl) hdb) ht⟩
theorem cw_cm0 {pins : List (Addr × Obj)} {σ : L2.St} {H : Hp} {s : Shared} {q : Addr} {Q E : Value → Shared → Prop} {A : Around} (I : Inv X ((q, PySem.W.methodObj (.ref g) (.ref Ca)) :: pins) σ H s) (hb : X.base.get? q = none) (hf : PySem.W.fnIn X.K g = true)
    (h : wpAny (model X.prog X.w) A (call (.ref q) []) Q E s) : wpAny (model X.prog X.w) A (callWith pos (.ref q) [] (backTo pos (starEach [] X.env)) []) Q E s :=
  PySem.W.callWith_M0 (K := X.K) ⟨ClX.pin_at I, I.kIn⟩ hf h
theorem pe_cmS0 (hm : X.mg x = some (.ref Ca)) (r : ClX.CRead X.K Ca (.type "type")) (c : ClX.CMet X.K Ca (.type "type") m p' g) (FR : FnR X.prog X.w X.K X.mg X.base (L2.CX X.prog X.w) k g sp) (hr : Room k X.A) (tk : Takes X W) (hg : Gl X x) (hdb : (x == ("__debug__" : Str)) = false)
    (ht : eval (.Call (.Attribute (.Name x p) m apos) [] [] pos) X.env = (do
      let ov ← eval (.Name x p) X.env
      standAt apos.atName
      let (f, first) ← holding [ov] (getMethod ov m pl)
      callWith pos f first (backTo pos (starEach [] X.env)) (backToKw pos (keywordEach [] X.env)))) : PE X (.Call (.Attribute (.Name x p) m apos) [] [] pos) (tCM Ca sp W tNil) := ⟨fun pins s σ H Q I h =>
  PySem.W.methodCall_KW (pl := pl) (ld_glob I hg hm (ClX.getmethcm_ok I r c fun s2 I2 => cw_cm0 I2 (ClX.base_none I (Nat.le_refl _)) c.fi (run_cmS FR hr tk I2 .nil h)) hdb) ht⟩
end
end
def spSt (K : KC) (n : Nat) (F : Fn) : Sp := fun vs H Q E => ∃ G ds es, Sub G H ∧ Reps K G vs (ds ++ es) ∧ ds.length = n ∧ es.length ≤ sizeLine ∧ match F (ds ++ [.tup es]) with
  | .ok ev => ∀ v G' H', Ext G H G' H' → EVok K ⟨G, H⟩ H G' H' v ev → Q v H'
  | .exc e => ∀ cls d G' H', Ext G H G' H' → ExcOk K G' H' cls d e → E cls d H'
  | .stuck => False
theorem reps_split {K : KC} {G : Hp} : ∀ {ds es : List D} {vs : List V}, Reps K G vs (ds ++ es) → ∃ us ws, vs = us ++ ws ∧ Reps K G us ds ∧ Reps K G ws es
  | [], _, vs, r => ⟨[], vs, rfl, .nil, r⟩
  | d :: ds, es, _, .cons a b => by
    obtain ⟨us, ws, e, h1, h2⟩ := reps_split b
    exact ⟨_ :: us, ws, by rw [e]; rfl, .cons a h1, h2⟩
theorem EVok.entry {K : KC} {Z Z' : Ent} {Hs Hs' G H : Hp} {v : V} {ev : EV} (h1 : Sub Z.H Z'.H) (h2 : Sub Hs Hs') (k : EVok K Z' Hs' G H v ev) : EVok K Z Hs G H v ev := by
  cases ev with
  | fz d => exact k
  | ow n w =>
    obtain ⟨p, e, a, b, c, d⟩ := k
    exact ⟨p, e, a, b, h1.none c, fun q => h2.none (d q)⟩
theorem spD_star {K : KC} {n : Nat} {F : Fn} {vs : List V} {H : Hp} {Q : VK} {E : XK} (h : spSt K n F vs H Q E) : ∃ ws rest, vs = ws ++ rest ∧ ws.length = n ∧ rest.length ≤ sizeLine ∧ ∀ p, H p = none → spD K (n + 1) F (ws ++ [V.ref p]) (upd H p (.tup rest)) Q E := by
  obtain ⟨G, ds, es, s, r, hn, hz, q⟩ := h
  obtain ⟨us, ws, rfl, h1, h2⟩ := reps_split r
  refine ⟨us, ws, rfl, h1.length.trans hn, by rw [h2.length]; exact hz, fun p hp => ?_⟩
  have x0 : Ext G H (upd G p (.tup ws)) (upd H p (.tup ws)) := .lay2 s hp
  refine ⟨upd G p (.tup ws), ds ++ [.tup es], x0.s, (h1.mono x0.g).append (.cons (.tup (.of upd_same) (h2.mono x0.g)) .nil), by rw [List.length_append, hn]; rfl, ?_⟩
  cases hF : F (ds ++ [.tup es]) with
  | stuck => rw [hF] at q; exact q
  | ok ev => rw [hF] at q; exact fun v G' H' x k => q v G' H' (x0.trans x) (k.entry x0.h x0.h)
  | exc e => rw [hF] at q; exact fun cls d G' H' x k => q cls d G' H' (x0.trans x) k
section
variable {P : Program} {w : World} {mg : Str → Option Value} {base : Heap}
theorem fn_starD {K : KC} {x qual pv : Str} {params : Arguments} {body : List Stmt} {scope : Scope} {kws : List (Str × V)} {f : Addr} {fd : FuncData} {N ps : List Str} {k : Nat} {b : Env → Out} (F : FunD K.K x qual params body scope [] kws f fd) (S : FnScope N (ps ++ [pv]) scope) (hn : ps.length + 1 ≤ N.length)
    (hb : ∀ (kV doc pm cdv ct : Value) (an : Option Addr) (us rest : List Value), us.length = ps.length → bindArgs (PySem.W.fnOf x qual params body scope .none kV doc pm an cdv ct) ⟨us ++ rest, []⟩ = (newTuple rest >>= fun t => pure (ps.zip us ++ [(pv, t)])))
    (hbody : ∀ (cdv : Value) (A : Around) (outer : List PySem.Env) (s : Shared) (H : Hp) (E : XK), Room k (A.deeper (envOfC qual scope s.heap.objs.size f cdv)) →
      PassesOwn (model P w) (A.deeper (envOfC qual scope s.heap.objs.size f cdv)) (envOfC qual scope s.heap.objs.size f cdv) (cxOf (L2.CX P w) P w K.K mg base N qual scope f cdv A outer s H E).xe →
      Takes (cxOf (L2.CX P w) P w K.K mg base N qual scope f cdv A outer s H E) (fun cls d _ H => E cls d H) → DSs (cxOf (L2.CX P w) P w K.K mg base N qual scope f cdv A outer s H E) K.C (fun cls d _ H => E cls d H) body b) : FnR P w K.K mg base (L2.CX P w) (k + 1) f (spSt K ps.length (runB N.length b)) := by
  obtain ⟨oc, od, dV, kV, doc, pm, an, cdv, ct, osl, rfl, lk, hcd, hD, _⟩ := F.ex
  obtain rfl : dV = .none := hD.elim (fun h => h.2) fun h => absurd rfl h.1
  refine (StX.fn_star (sp := spD K (ps.length + 1) (runB N.length b)) lk hcd S StX.cxUp (hb _ _ _ _ _ _) fun A outer s H vs Q E hr ⟨G, ds, hs, r, l, h⟩ => ?_).imp fun vs H Q E h => spD_star h
  refine ⟨_, (hbody cdv A outer s H E hr (passes_of rfl) (takes_of rfl rfl rfl rfl)).pss, ⟨G, H⟩, G, _, er_start hs r N (by rw [l]; exact hn), ?_⟩
  unfold runB at h
  show Post K _ _ _ _ _
  cases hb : b (ds.map SL.val ++ List.replicate (N.length - ds.length) SL.no) with
  | nx e => rw [hb] at h; exact fun σ H2 G2 s2 er2 => h .non G2 H2 er2.toExt .non
  | ret ev => rw [hb] at h; exact fun σ env v H2 G2 Hs s2 er2 zs k => h v G2 H2 er2.toExt (k.start zs)
  | exc e en => rw [hb] at h; exact fun σ H2 G2 cls d s2 er2 k => h cls d G2 H2 er2.toExt k
  | bk e => rw [hb] at h; exact h.elim
  | ct e => rw [hb] at h; exact h.elim
  | stuck => rw [hb] at h; exact h.elim
def CmG (P : Program) (w : World) (K : KC) (mg : Str → Option Value) (base : Heap) (k : Nat) (x m : Str) (n : Nat) (st : Bool) (F : Fn) : Prop :=
  ∃ Ca, mg x = some (.ref Ca) ∧ K.C.cls x = some Ca ∧ crB K.K Ca = true ∧ cmB K.K Ca m = true ∧ FnR P w K.K mg base (L2.CX P w) k (cmA K.K Ca m) (if st = true then spSt K (n + 1) F else spD K (n + 1) F)
theorem CmG.cx {K : PySem.W.Frag} {C C' : CT} {k n : Nat} {x m : Str} {st : Bool} {F : Fn} (h2 : C.cls = C'.cls) (h3 : C.slf = none) (h : CmG P w ⟨K, C⟩ mg base k x m n st F) : CmG P w ⟨K, C'⟩ mg base k x m n st F := by
  obtain ⟨Ca, f1, f2, f3, f4, f5⟩ := h
  refine ⟨Ca, f1, h2 ▸ f2, f3, f4, f5.imp fun vs H Q E z => ?_⟩
  cases st with
  | false => exact spD_cx (K := ⟨K, C⟩) (K' := ⟨K, C'⟩) rfl h2 h3 z
  | true =>
    obtain ⟨G, ds, es, s, r, hn, hz, q⟩ := z
    refine ⟨G, ds, es, s, Reps.cx (K := ⟨K, C'⟩) (K' := ⟨K, C⟩) rfl h2.symm r, hn, hz, ?_⟩
    cases hF : F (ds ++ [.tup es]) with
    | stuck => rw [hF] at q; exact q
    | ok ev => rw [hF] at q; exact fun v G' H' x k => q v G' H' x (EVok.cx (K := ⟨K, C⟩) (K' := ⟨K, C'⟩) rfl h2 (fun p e => by rw [show (C.slf) = none from h3] at e; cases e) k)
    | exc e => rw [hF] at q; exact fun cls d G' H' x k => q cls d G' H' x (ExcOk.cx (K := ⟨K, C⟩) (K' := ⟨K, C'⟩) rfl h2 k)
end
def cmD (x : Str) (st : Bool) (F : Fn) : Fn := fun ds => if st = true then F [.cls x, .tup ds] else F (.cls x :: ds)
section
variable {X : Cx} {C : CT} {W : WX}
theorem cm_go {x : Str} {n : Nat} {st : Bool} {F : Fn} {Ca : Addr} {vs : List V} {H : Hp} {Q : VK} {E : XK} (hC : C.cls x = some Ca) (hst : st = false ∨ n = 0) {j : Nat} (hj : st = false → j = n) (hz : j ≤ sizeLine) (h : spD (kc X C) j (cmD x st F) vs H Q E) : (if st = true then spSt (kc X C) (n + 1) F else spD (kc X C) (n + 1) F) (.ref Ca :: vs) H Q E := by
  obtain ⟨G, ds, s, r, l, q⟩ := h
  unfold cmD at q
  cases st with
  | true =>
    obtain rfl : n = 0 := hst.elim (fun e => by cases e) id
    exact ⟨G, [.cls x], ds, s, .cons (.cls hC) r, rfl, by rw [l]; exact hz, q⟩
  | false => exact ⟨G, .cls x :: ds, s, .cons (.cls hC) r, by rw [List.length_cons, l, hj rfl], q⟩
theorem de_cm {F : Fn} {k n : Nat} {st : Bool} {x m : Str} {p apos pos : Pos} {e : Expr} {es : List Expr} {ma : Env → Rz (List EV)} {pl : Sem Bool} (CG : CmG X.prog X.w (kc X C) X.mg X.base k x m n st F) (hr : Room k X.A) (tk : Takes X W) (j : Nat) (ha : DA X C W (e :: es) ma)
    (hst : st = false ∨ n = 0 := by first | exact .inl rfl | exact .inr rfl) (hj : st = false → j = n := by first | exact fun _ => rfl | exact fun h => by cases h) (hz : j ≤ 1000 := by decide) (hg : Gl X x := by rfl) (hdb : (x == ("__debug__" : Str)) = false := by decide)
    (he : starEach (e :: es) X.env = (false, eval e X.env) :: starEach es X.env := by rfl) (hpl : (backTo pos (starEach es X.env)).any (·.1) = false := by rfl)
    (ht : eval (.Call (.Attribute (.Name x p) m apos) (e :: es) [] pos) X.env = (do
      let ov ← eval (.Name x p) X.env
      standAt apos.atName
      let (f, first) ← holding [ov] (getMethod ov m pl)
      callWith pos f first (backTo pos (starEach (e :: es) X.env)) (backToKw pos (keywordEach [] X.env))) := by rfl) : DE X C W (.Call (.Attribute (.Name x p) m apos) (e :: es) [] pos) (mFn (cmD x st F) ma j) := by
  obtain ⟨Ca, hm, hC, hcr, hcm, FR⟩ := CG
  exact ⟨PE.imp (pe_cmS hm (crB_ok hcr) (cmB_ok hcm) FR hr tk ha.pa hg hdb he hpl ht) fun σ H Q h => tA_seq (f := fun evs _ => if evs.length = j then appF (cmD x st F) evs else .stuck) h fun Z G1 H1 env vs a er va hs q => by
    by_cases hn : a.length = j
    · rw [if_pos hn] at q
      exact cm_go hC hst hj (by rw [sizeLine_eq]; omega) (ask_fn er va hn q)
    · rw [if_neg hn] at q; exact q.elim⟩
theorem de_cm0 {F : Fn} {k n : Nat} {st : Bool} {x m : Str} {p apos pos : Pos} {pl : Sem Bool} (CG : CmG X.prog X.w (kc X C) X.mg X.base k x m n st F) (hr : Room k X.A) (tk : Takes X W) (hn : n = 0 := by rfl) (hg : Gl X x := by rfl) (hdb : (x == ("__debug__" : Str)) = false := by decide)
    (ht : eval (.Call (.Attribute (.Name x p) m apos) [] [] pos) X.env = (do
      let ov ← eval (.Name x p) X.env
      standAt apos.atName
      let (f, first) ← holding [ov] (getMethod ov m pl)
      callWith pos f first (backTo pos (starEach [] X.env)) (backToKw pos (keywordEach [] X.env))) := by rfl) : DE X C W (.Call (.Attribute (.Name x p) m apos) [] [] pos) (mFn (cmD x st F) mNil 0) := by
  obtain ⟨Ca, hm, hC, hcr, hcm, FR⟩ := CG
  exact ⟨PE.imp (pe_cmS0 hm (crB_ok hcr) (cmB_ok hcm) FR hr tk hg hdb ht) fun σ H Q h => by
    have da : DA X C W [] mNil := da_nil
    obtain ⟨Z, G, env, er, q⟩ := h
    refine cm_go hC (.inr hn) (j := 0) (fun _ => hn.symm) (Nat.zero_le _) (ask_fn (evs := []) (Hs := H) er .nil rfl ?_)
    show match appF (cmD x st F) [] with
      | .ok ev => _
      | .exc e => _
      | .stuck => _
    exact q⟩
def tMakeL (i : Nat) (Cc : Addr) (sp : Sp) (W : WX) (t : TA) : TE := fun σ H Q => σ[i]? = some (some (.ref Cc)) ∧ tMakeS Cc sp W t σ H Q
theorem pe_makeL {i : Nat} {Cc f : Addr} {k : Nat} {fd : FuncData} {ps : List Str} {sp : Sp} {x : Str} {e : Expr} {es : List Expr} {t : TA} {p pos : Pos} (M : Mk X.K Cc f) (FO : FnOk X.prog X.w X.K X.mg X.base (L2.CX X.prog X.w) k f fd ps sp)
    (hr : Room (k + 1) X.A) (hb : Binds X.K fd ps []) (tk : Takes X W) (hN : X.N[i]? = some x) (hv : Vis X.env.scope x) (ha : PA X (e :: es) t) (hdb : (x == ("__debug__" : Str)) = false) (hcd : (x == ("__classdict__" : Str)) = false) (he : starEach (e :: es) X.env = (false, eval e X.env) :: starEach es X.env)
    (hpl : (backTo pos (starEach es X.env)).any (·.1) = false) : PE X (.Call (.Name x p) (e :: es) [] pos) (tMakeL i Cc sp W t) := ⟨fun pins s σ H Q I ⟨hs, h⟩ =>
  wpAny_Call_Name_kw (thn ((pe_var (pos := p) hN hv hdb hcd).run pins s σ H (fun v H1 => v = .ref Cc ∧ H1 = H) I ⟨.ref Cc, hs, rfl, rfl⟩) fun u s1 ⟨v, H1, I1, r1, q1⟩ => by
    obtain ⟨rfl, rfl⟩ := q1
    cases r1
    exact PySem.W.callWith_K (h₀ := X.base) I.ok.mod.kin M.kp (thn (ha.run pos pins s1 σ _ _ I1 h) fun us s2 ⟨vs, H2, I2, r, q⟩ => ⟨I2.kIn, make_at M FO hr hb tk I2 r q⟩) he hpl)⟩
theorem pe_makeL0 {i : Nat} {Cc f : Addr} {k : Nat} {fd : FuncData} {ps : List Str} {sp : Sp} {x : Str} {p pos : Pos} (M : Mk X.K Cc f) (FO : FnOk X.prog X.w X.K X.mg X.base (L2.CX X.prog X.w) k f fd ps sp)
    (hr : Room (k + 1) X.A) (hb : Binds X.K fd ps []) (tk : Takes X W) (hN : X.N[i]? = some x) (hv : Vis X.env.scope x) (hdb : (x == ("__debug__" : Str)) = false) (hcd : (x == ("__classdict__" : Str)) = false) : PE X (.Call (.Name x p) [] [] pos) (tMakeL i Cc sp W tNil) := ⟨fun pins s σ H Q I ⟨hs, h⟩ =>
  wpAny_Call_Name_kw (thn ((pe_var (pos := p) hN hv hdb hcd).run pins s σ H (fun v H1 => v = .ref Cc ∧ H1 = H) I ⟨.ref Cc, hs, rfl, rfl⟩) fun u s1 ⟨v, H1, I1, r1, q1⟩ => by
    obtain ⟨rfl, rfl⟩ := q1
    cases r1
    exact PySem.W.callWith_K0 I1.kIn M.kp (make_at M FO hr hb tk I1 .nil h))⟩
theorem pe_makeS0 {Cc f : Addr} {k : Nat} {fd : FuncData} {ps : List Str} {sp : Sp} {x : Str} {p pos : Pos} (M : Mk X.K Cc f) (FO : FnOk X.prog X.w X.K X.mg X.base (L2.CX X.prog X.w) k f fd ps sp)
    (hr : Room (k + 1) X.A) (hb : Binds X.K fd ps []) (tk : Takes X W) (hg : Gl X x) (hm : X.mg x = some (.ref Cc)) (hdb : (x == ("__debug__" : Str)) = false) : PE X (.Call (.Name x p) [] [] pos) (tMakeS Cc sp W tNil) := ⟨fun pins s σ H Q I h =>
  wpAny_Call_Name_kw (ld_glob I hg hm (PySem.W.callWith_K0 I.kIn M.kp (make_at M FO hr hb tk I .nil h)) hdb)⟩
def mMakeL (i : Nat) (c : Str) (n : Nat) (IF : IFn) (m : Env → Rz (List EV)) : Env → Rz EV := fun env => match env.getD i .no with
  | .val (.cls c') => if c' = c then mMake c n IF m env else .stuck
  | _ => .stuck
theorem makeL_go {i n : Nat} {c : Str} {IF : IFn} {m : Env → Rz (List EV)} {Ca : Addr} {σ : L2.St} {H : Hp} {Q : VK} (hC : C.cls c = some Ca) (h : tE (kc X C) W (mMakeL i c n IF m) σ H Q) : tMakeL i Ca (spI (kc X C) c n IF) W (tA (kc X C) W m) σ H Q := by
  obtain ⟨Z, G, env, er, q⟩ := h
  unfold mMakeL at q
  cases hi : env.getD i .no with
  | val d =>
    rw [hi] at q
    cases d with
    | cls c' =>
      by_cases hc : c' = c
      · subst hc
        simp only [if_true] at q
        obtain ⟨v, hv, u, e, r⟩ := er.at' i _ (getD_some hi (by intro h; cases h))
        subst e
        cases r with
        | cls e2 =>
          have e3 : C.cls c' = some _ := e2
          rw [hC] at e3
          cases e3
          refine ⟨hv, ?_⟩
          exact tA_seq (f := fun evs _ => if evs.length = n then appI c' IF evs else .stuck) ⟨Z, G, env, er, q⟩ fun Z G1 H1 env vs a er va hs q x' dx hx hdx hne => by
            by_cases hn : a.length = n
            · rw [if_pos hn] at q
              exact ask_init er va hn hC q x' dx hx hdx hne
            · rw [if_neg hn] at q; exact q.elim
      · simp only [if_neg hc] at q
    | _ => exact q.elim
  | _ => rw [hi] at q; exact q.elim
theorem de_makeL (i : Nat) {IF : IFn} {k n : Nat} {c x : Str} {p pos : Pos} {e : Expr} {es : List Expr} {m : Env → Rz (List EV)} (IG : InG X.prog X.w (kc X C) X.mg X.base k c n IF) (hr : Room (k + 1) X.A) (tk : Takes X W) (ha : DA X C W (e :: es) m)
    (hN : X.N[i]? = some x := by rfl) (hv : Vis X.env.scope x := by first | exact Or.inl rfl | exact Or.inr (Or.inl rfl) | exact Or.inr (Or.inr rfl)) (hd : (x == ("__debug__" : Str)) = false := by decide) (hcd : (x == ("__classdict__" : Str)) = false := by decide)
    (he : starEach (e :: es) X.env = (false, eval e X.env) :: starEach es X.env := by rfl) (hpl : (backTo pos (starEach es X.env)).any (·.1) = false := by rfl) : DE X C W (.Call (.Name x p) (e :: es) [] pos) (mMakeL i c n IF m) := by
  obtain ⟨Ca, f, fd, ps, hm, hC, M, FO, hb⟩ := IG
  exact ⟨PE.imp (pe_makeL M FO hr hb tk hN hv ha.pa hd hcd he hpl) fun σ H Q h => makeL_go hC h⟩
theorem tNil_of {m : Env → Rz (List EV)} {σ : L2.St} {H : Hp} {R : List V → Hp → Prop} (hm : m = mNil) (h : tA (kc X C) W m σ H R) : tNil σ H R := by
  subst hm
  obtain ⟨Z, G, env, er, q⟩ := h
  exact q [] G H (.refl er.sub) .nil
theorem de_makeL0 (i : Nat) {IF : IFn} {k n : Nat} {c x : Str} {p pos : Pos} (IG : InG X.prog X.w (kc X C) X.mg X.base k c n IF) (hr : Room (k + 1) X.A) (tk : Takes X W)
    (hN : X.N[i]? = some x := by rfl) (hv : Vis X.env.scope x := by first | exact Or.inl rfl | exact Or.inr (Or.inl rfl) | exact Or.inr (Or.inr rfl)) (hd : (x == ("__debug__" : Str)) = false := by decide) (hcd : (x == ("__classdict__" : Str)) = false := by decide) : DE X C W (.Call (.Name x p) [] [] pos) (mMakeL i c n IF mNil) := by
  obtain ⟨Ca, f, fd, ps, hm, hC, M, FO, hb⟩ := IG
  exact ⟨PE.imp (pe_makeL0 M FO hr hb tk hN hv hd hcd) fun σ H Q h => (makeL_go hC h).imp id fun z => tNil_of rfl z⟩
theorem de_make0 {IF : IFn} {k n : Nat} {x : Str} {p pos : Pos} (IG : InG X.prog X.w (kc X C) X.mg X.base k x n IF) (hr : Room (k + 1) X.A) (tk : Takes X W) (hg : Gl X x := by rfl) (hdb : (x == ("__debug__" : Str)) = false := by decide) : DE X C W (.Call (.Name x p) [] [] pos) (mMake x n IF mNil) := by
  obtain ⟨Ca, f, fd, ps, hm, hC, M, FO, hb⟩ := IG
  exact ⟨PE.imp (pe_makeS0 M FO hr hb tk hg hm hdb) fun σ H Q h => tNil_of rfl (tA_seq (f := fun evs _ => if evs.length = n then appI x IF evs else .stuck) h fun Z G1 H1 env vs a er va hs q x' dx hx hdx hne => by
    by_cases hn : a.length = n
    · rw [if_pos hn] at q
      exact ask_init er va hn hC q x' dx hx hdx hne
    · rw [if_neg hn] at q; exact q.elim)⟩
end
end DL
namespace DL
open PySem PySem.Spec PyProof.Rows L2
def clsOf (l : List Str) (K : PySem.W.Frag) : Str → Option Addr := fun x => if x ∈ l then some (He.ga K x) else none
theorem clsOf_in {l : List Str} {K : PySem.W.Frag} {x : Str} (h : x ∈ l) : clsOf l K x = some (He.ga K x) := if_pos h
theorem clsOf_inv {l : List Str} {K : PySem.W.Frag} {x : Str} {a : Addr} (h : clsOf l K x = some a) : x ∈ l ∧ a = He.ga K x := by
  unfold clsOf at h
  split at h
  · rename_i q; cases h; exact ⟨q, rfl⟩
  · cases h
def CC (l : List Str) (K : PySem.W.Frag) : CT := ⟨clsOf l K, none, none⟩
theorem fldOk_of {l cs : List Str} {K : PySem.W.Frag} {C : CT} {f : Str} (hC : C.cls = clsOf l K) (h : ∀ c ∈ cs, Cls K (He.ga K c) ∧ NoAttr K (He.ga K c) f) : FldOk K C cs f := fun c hc Ca e => by
  rw [hC] at e
  obtain ⟨_, rfl⟩ := clsOf_inv e
  exact h c hc
section
variable {X : Cx} {cl : Str → Option Addr} {sl : Option Addr} {W : WX} {a Ca : Addr} {oe : Obj} {d : Option Addr} {pn : List (Addr × Obj)}
def inCs (cs : List Str) (e : Exn) : Rz Exn := if e.cls ∈ cs then .ok e else .stuck
def mXfC (cs : List Str) (i : Nat) (f : Str) : Env → Rz EV := fun env => exAt env i >>= fun e => inCs cs e >>= fun e => orStuck (e.fs.lookup f) >>= fun x => .ok (.fz x)
def mIsEC (cs : List Str) (i : Nat) (S : Str → Option Bool) : Env → Rz EV := fun env => exAt env i >>= fun e => inCs cs e >>= fun e => orStuck (S e.cls) >>= fun b => .ok (.fz (.bl b))
theorem cs_go {K : PySem.W.Frag} {cs : List Str} {i : Nat} {g : Exn → Rz EV} {σ : L2.St} {H : Hp} {Q : VK} (h : tE ⟨K, ⟨cl, some (a, Ca, d), sl⟩⟩ W (fun env => exAt env i >>= fun e => inCs cs e >>= g) σ H Q) :
    (∃ z ∈ cs, cl z = some Ca) ∧ tE ⟨K, ⟨cl, some (a, Ca, d), sl⟩⟩ W (fun env => exAt env i >>= g) σ H Q := by
  obtain ⟨Z, G, env, er, q⟩ := h
  dsimp only at q
  cases he : exAt env i with
  | stuck => rw [he] at q; exact q.elim
  | exc e => exact absurd he exAt_exc
  | ok e =>
    rw [he] at q
    simp only [Rz.ok_bind] at q
    unfold inCs at q
    by_cases hc : e.cls ∈ cs
    · rw [if_pos hc] at q
      simp only [Rz.ok_bind] at q
      refine ⟨⟨e.cls, hc, ?_⟩, Z, G, env, er, ?_⟩
      · obtain ⟨v, _, a', Ca', d', e1, _, e2⟩ := er.at' i _ (exAt_ok he)
        cases e1
        obtain ⟨b, e3, e4, _⟩ := e2
        cases e4
        exact e3
      · dsimp only
        rw [he]
        exact q
    · rw [if_neg hc] at q; exact q.elim
theorem de_xfC {cs : List Str} {i : Nat} {x n : Str} {p pos : Pos} (T : ∀ z ∈ cs, ∀ Ca, cl z = some Ca → XfC X.K Ca ∧ PySem.W.findIn X.K (.ref Ca) n = some none) (hz : Zc (.ref Ca) d oe) (hf : ∃ vs, oe.data = .fields vs)
    (hN : X.N[i]? = some x := by rfl) (hv : Vis X.env.scope x := by first | exact Or.inl rfl | exact Or.inr (Or.inl rfl) | exact Or.inr (Or.inr rfl)) (hd : (x == ("__debug__" : Str)) = false := by decide) (hcd : (x == ("__classdict__" : Str)) = false := by decide)
    (hb : attributeBase (.Name x p) n X.env (eval (.Name x p) X.env) = eval (.Name x p) X.env := by rfl) : DE (X.suite a ((a, oe) :: pn)) ⟨cl, some (a, Ca, d), sl⟩ W (.Attribute (.Name x p) n pos) (mXfC cs i n) :=
  ⟨⟨fun pins s σ H Q I h => by
    obtain ⟨⟨z, hz', hc⟩, q⟩ := cs_go (g := fun e => orStuck (e.fs.lookup n) >>= fun x => .ok (.fz x)) h
    obtain ⟨t1, t2⟩ := T z hz' Ca hc
    exact (de_xf (W := W) (cl := cl) (sl := sl) (i := i) t1 t2 hz hf hN hv hd hcd hb).pe.run pins s σ H Q I q⟩⟩
theorem de_isEC {cs : List Str} {i : Nat} {x y : Str} {Cb : Addr} {S : Str → Option Bool} {p p1 p2 pos : Pos} (T : ∀ z ∈ cs, ∀ Ca, cl z = some Ca → ExcC X.K Ca) (hz : Zc (.ref Ca) d oe) (hf : ∃ vs, oe.data = .fields vs) (hm : X.mg "isinstance" = none) (hy : X.mg y = some (.ref Cb))
    (hS : ∀ (z : Str) (b : Bool) (Ca : Addr), S z = some b → cl z = some Ca → PySem.W.kitOne X.K (.ref Ca) (.ref Cb) = some b)
    (hg : Gl X "isinstance" := by rfl) (hgy : Gl X y := by rfl) (hdy : (y == ("__debug__" : Str)) = false := by decide) (hN : X.N[i]? = some x := by rfl) (hv : Vis X.env.scope x := by first | exact Or.inl rfl | exact Or.inr (Or.inl rfl) | exact Or.inr (Or.inr rfl)) (hd : (x == ("__debug__" : Str)) = false := by decide) (hcd : (x == ("__classdict__" : Str)) = false := by decide) :
    DE (X.suite a ((a, oe) :: pn)) ⟨cl, some (a, Ca, d), sl⟩ W (.Call (.Name "isinstance" p) [.Name x p1, .Name y p2] [] pos) (mIsEC cs i S) :=
  ⟨⟨fun pins s σ H Q I h => by
    obtain ⟨⟨z, hz', hc⟩, q⟩ := cs_go (g := fun e => orStuck (S e.cls) >>= fun b => .ok (.fz (.bl b))) h
    exact (de_isE (W := W) (cl := cl) (sl := sl) (i := i) (T z hz' Ca hc) hz hf hm hy (fun z b e1 e2 => hS z b Ca e1 e2) hg hgy hdy hN hv hd hcd).pe.run pins s σ H Q I q⟩⟩
theorem de_isEbC {cs : List Str} {i : Nat} {x y : Str} {T' : String} {S : Str → Option Bool} {p p1 p2 pos : Pos} (T : ∀ z ∈ cs, ∀ Ca, cl z = some Ca → ExcC X.K Ca) (hz : Zc (.ref Ca) d oe) (hf : ∃ vs, oe.data = .fields vs) (hm : X.mg "isinstance" = none) (hy : X.mg y = none) (hb : bootBuiltins y = some (.type T'))
    (hS : ∀ (z : Str) (b : Bool) (Ca : Addr), S z = some b → cl z = some Ca → PySem.W.kitOne X.K (.ref Ca) (.type T') = some b)
    (hg : Gl X "isinstance" := by rfl) (hgy : Gl X y := by rfl) (hny : y ≠ "__name__" := by decide) (hdy : (y == ("__debug__" : Str)) = false := by decide) (hN : X.N[i]? = some x := by rfl) (hv : Vis X.env.scope x := by first | exact Or.inl rfl | exact Or.inr (Or.inl rfl) | exact Or.inr (Or.inr rfl)) (hd : (x == ("__debug__" : Str)) = false := by decide) (hcd : (x == ("__classdict__" : Str)) = false := by decide) :
    DE (X.suite a ((a, oe) :: pn)) ⟨cl, some (a, Ca, d), sl⟩ W (.Call (.Name "isinstance" p) [.Name x p1, .Name y p2] [] pos) (mIsEC cs i S) :=
  ⟨⟨fun pins s σ H Q I h => by
    obtain ⟨⟨z, hz', hc⟩, q⟩ := cs_go (g := fun e => orStuck (S e.cls) >>= fun b => .ok (.fz (.bl b))) h
    exact (de_isEb (W := W) (cl := cl) (sl := sl) (i := i) (T z hz' Ca hc) hz hf hm hy hb (fun z b e1 e2 => hS z b Ca e1 e2) hg hgy hny hdy hN hv hd hcd).pe.run pins s σ H Q I q⟩⟩
end
def tabS (l : List (Str × Bool)) : Str → Option Bool := fun x => l.lookup x
theorem tab_mem {l : List (Str × Bool)} {x : Str} {b : Bool} (h : tabS l x = some b) : (x, b) ∈ l := by
  unfold tabS at h
  induction l with
  | nil => cases h
  | cons q r ih =>
    obtain ⟨y, c⟩ := q
    rw [List.lookup_cons] at h
    cases e : (x == y) with
    | true => rw [e] at h; cases h; rw [beq_iff_eq.mp e]; exact .head _
    | false => rw [e] at h; exact .tail _ (ih h)
def exmTab (K : PySem.W.Frag) (c : Value) (l : List (Str × Bool)) : Bool := l.all fun q => decide (PySem.W.exmOne K (.ref (He.ga K q.1)) c = some q.2)
def kitTab (K : PySem.W.Frag) (c : Value) (l : List (Str × Bool)) : Bool := l.all fun q => decide (PySem.W.kitOne K (.ref (He.ga K q.1)) c = some q.2)
theorem exmTab_ok {K : PySem.W.Frag} {c : Value} {l : List (Str × Bool)} {m : List Str} (h : exmTab K c l = true) {cl : Str → Option Addr} (hc : cl = clsOf m K) : ∀ (y : Str) (a : Addr) (b : Bool), tabS l y = some b → cl y = some a → PySem.W.exmOne K (.ref a) c = some b := fun y a b h1 h2 => by
  subst hc
  obtain ⟨_, rfl⟩ := clsOf_inv h2
  exact of_decide_eq_true (List.all_eq_true.mp h _ (tab_mem h1))
theorem kitTab_ok {K : PySem.W.Frag} {c : Value} {l : List (Str × Bool)} {m : List Str} (h : kitTab K c l = true) {cl : Str → Option Addr} (hc : cl = clsOf m K) : ∀ (y : Str) (b : Bool) (a : Addr), tabS l y = some b → cl y = some a → PySem.W.kitOne K (.ref a) c = some b := fun y b a h1 h2 => by
  subst hc
  obtain ⟨_, rfl⟩ := clsOf_inv h2
  exact of_decide_eq_true (List.all_eq_true.mp h _ (tab_mem h1))
def excTab (K : PySem.W.Frag) (l : List Str) : Bool := l.all fun q => excB K (He.ga K q)
theorem excTab_ok {K : PySem.W.Frag} {l m : List Str} (h : excTab K l = true) {cl : Str → Option Addr} (hc : cl = clsOf m K) : ∀ z ∈ l, ∀ Ca, cl z = some Ca → ExcC K Ca := fun z hz Ca e => by
  subst hc
  obtain ⟨_, rfl⟩ := clsOf_inv e
  exact excB_ok (List.all_eq_true.mp h z hz)
def noatTab (K : PySem.W.Frag) (l : List (Str × Str)) : Bool := l.all fun q => He.eqO (PySem.W.findIn K (.ref (He.ga K q.1)) q.2) (some none)
theorem noatTab_ok {K : PySem.W.Frag} {l : List (Str × Str)} (h : noatTab K l = true) {x f : Str} (e : (x, f) ∈ l) : PySem.W.findIn K (.ref (He.ga K x)) f = some none := He.eqO_ok (List.all_eq_true.mp h _ e)
theorem xfTab_ok {K : PySem.W.Frag} {l m : List Str} {t : List (Str × Str)} {f : Str} (h : excTab K l = true) (h2 : noatTab K t = true) (h3 : ∀ z ∈ l, (z, f) ∈ t) {cl : Str → Option Addr} (hc : cl = clsOf m K) : ∀ z ∈ l, ∀ Ca, cl z = some Ca → XfC K Ca ∧ PySem.W.findIn K (.ref Ca) f = some none := fun z hz Ca e => by
  subst hc
  obtain ⟨_, rfl⟩ := clsOf_inv e
  exact ⟨ExcC.xf (excB_ok (List.all_eq_true.mp h z hz)), noatTab_ok h2 (h3 z hz)⟩
theorem ExG.cx {P : Program} {w : World} {K : PySem.W.Frag} {C C' : CT} {mg : Str → Option Value} {base : Heap} {k : Nat} {x : Str} {fs : List Str} (h2 : C.cls = C'.cls) (h : ExG P w ⟨K, C⟩ mg base k x fs) : ExG P w ⟨K, C'⟩ mg base k x fs := by
  obtain ⟨Ca, fI, fd, ps, a, b, c⟩ := h
  exact ⟨Ca, fI, fd, ps, a, h2 ▸ b, c⟩
theorem spI_cx {K : PySem.W.Frag} {C C' : CT} {c : Str} {n : Nat} {IF : IFn} (h2 : C.cls = C'.cls) {vs : List V} {H : Hp} {Q : VK} {E : XK} (h : spI ⟨K, C'⟩ c n IF vs H Q E) : spI ⟨K, C⟩ c n IF vs H Q E := by
  obtain ⟨a, Ca, dx, ws, G, ds, e1, e2, e3, e4, e5, e6, e7, q⟩ := h
  refine ⟨a, Ca, dx, ws, G, ds, e1, (congrFun h2 c).trans e2, e3, e4, e5, Reps.cx (K := ⟨K, C'⟩) (K' := ⟨K, C⟩) rfl h2.symm e6, e7, ?_⟩
  cases hF : IF ds with
  | stuck => rw [hF] at q; exact q
  | ok fs => rw [hF] at q; exact fun G' H' dx' vs' m g e r => q G' H' dx' vs' m g e (RepF.cx (K := ⟨K, C⟩) (K' := ⟨K, C'⟩) rfl h2 r)
  | exc e => rw [hF] at q; exact fun cls d G' H' m k => q cls d G' H' m (ExcOk.cx (K := ⟨K, C⟩) (K' := ⟨K, C'⟩) rfl h2 k)
theorem InG.cx {P : Program} {w : World} {K : PySem.W.Frag} {C C' : CT} {mg : Str → Option Value} {base : Heap} {k n : Nat} {c : Str} {IF : IFn} (h2 : C.cls = C'.cls) (h : InG P w ⟨K, C⟩ mg base k c n IF) : InG P w ⟨K, C'⟩ mg base k c n IF := by
  obtain ⟨Ca, f, fd, ps, a, b, c, d, e⟩ := h
  exact ⟨Ca, f, fd, ps, a, (congrFun h2 _).symm.trans b, c, d.imp fun vs H Q E z => spI_cx h2 z, e⟩
theorem spT_three {K : PySem.W.Frag} {D : Addr} {f g h : Str} (hfg : f ≠ g) (vs : List V) (H : Hp) (Q : VK) (E : XK) (z : spS K D [f, g, h] vs H Q E) :
    spT K D 4 (tSeq (tOst K f (tVar 0) (tVar 1)) (tSeq (tOst K g (tVar 0) (tVar 2)) (tOst K h (tVar 0) (tVar 3)))) vs H Q E := by
  obtain ⟨C, S, hf, a, ws, rfl, hl, ha, q⟩ := z
  match ws, hl with
  | [x, y, z], _ =>
    refine ⟨rfl, C, a, rfl, S, ha, x, rfl, _, rfl, a, C, rfl, S.oex, hf f (by simp), .inl ⟨ha, fun dx hdx hne => ⟨y, rfl, _, rfl, a, C, rfl, S.oex, hf g (by simp), .inr ⟨dx, [(f, x)], upd_same, by rw [upd_ne hne, upd_same], by simp, ⟨z, rfl, _, rfl, a, C, rfl, S.oex, hf h (by simp), .inr ⟨dx, [(g, y), (f, x)], by rw [upd_ne (Ne.symm hne), upd_same], upd_same, by simp, ?_⟩⟩⟩⟩⟩⟩
    have e : upd (upd (upd (upd H dx (exd dx [(f, x)])) a (exo a C (some dx))) dx (exd dx [(g, y), (f, x)])) dx (exd dx [(h, z), (g, y), (f, x)]) = upd (upd H dx (exd dx ([f, g, h].zip [x, y, z]).reverse)) a (exo a C (some dx)) := by
      funext b
      by_cases hb : b = dx
      · rw [hb, upd_same, upd_ne hne, upd_same]
        rfl
      · rw [upd_ne hb, upd_ne hb]
        by_cases hb2 : b = a
        · rw [hb2, upd_same, upd_same]
        · rw [upd_ne hb2, upd_ne hb2, upd_ne hb, upd_ne hb]
    show Q .non _
    rw [e]
    exact q dx hdx hne
end DL
namespace DL
open PySem PySem.Spec PyProof.Rows L2
section
variable {X : Cx} {C : CT} {W : WX}
theorem dss_stuck {st : List Stmt} : DSs X C W st (fun _ => Out.stuck) := ⟨⟨fun pins s σ H D I ⟨Z, G, env, er, q⟩ => q.elim⟩⟩
end
theorem noatL {K : PySem.W.Frag} {l : List (Str × Str)} {x : Str} {fs : List Str} (h : noatTab K l = true) (e : ∀ f ∈ fs, (x, f) ∈ l) : ∀ f ∈ fs, PySem.W.findIn K (.ref (He.ga K x)) f = some none := fun f hf => noatTab_ok h (e f hf)
theorem excTab_sub {K : PySem.W.Frag} {l m : List Str} (h : excTab K l = true) (e : ∀ z ∈ m, z ∈ l) : excTab K m = true := List.all_eq_true.mpr fun z hz => List.all_eq_true.mp h z (e z hz)
end DL
namespace DL
open PySem PySem.Spec PyProof.Rows L2

section
variable {K : KC} {Z : Ent} {G H : Hp} {σ : L2.St} {env : Env}
theorem ER.lose (er : ER K Z G H σ env) {i : Nat} {w : OW} {p : Addr} (o : HO) (hi : env[i]? = some (.own w)) (hs : σ[i]? = some (some (.ref p))) : G p = none ∧ Z.H p = none ∧ ER K Z G (upd H p o) σ (env.set i .no) ∧ Free σ (env.set i .no) p := by
  obtain ⟨g, z⟩ := er.own i _ _ p hi hs ⟨⟨w, rfl⟩, rfl⟩
  have hl : i < env.length := (List.getElem?_eq_some_iff.mp hi).1
  have key : ∀ {j : Nat} {x : SL} {v : Option V}, j ≠ i → env[j]? = some x → σ[j]? = some v → ¬ x.owns v p := fun {j x v} n e1 e2 o' => n (er.dis j i x _ v _ p e1 e2 o' hi hs ⟨⟨w, rfl⟩, rfl⟩)
  have e0 : ER K Z G H (σ.set i (some (.ref p))) (env.set i .no) := er.setN
  rw [show σ.set i (some (V.ref p)) = σ from by
    apply List.ext_getElem?
    intro j
    by_cases hj : i = j
    · subst hj; rw [List.getElem?_set_self (er.upTo hl), hs]
    · rw [List.getElem?_set_ne hj]] at e0
  have ni : ∀ {j : Nat} {x : SL}, (env.set i .no)[j]? = some x → x ≠ .no → j ≠ i ∧ env[j]? = some x := fun {j x} e hx => by
    have hj : j ≠ i := fun hj => by
      subst hj
      rw [List.getElem?_set_self hl] at e; cases e; exact hx rfl
    rw [List.getElem?_set_ne (Ne.symm hj)] at e
    exact ⟨hj, e⟩
  refine ⟨g, z, ⟨e0.len, e0.zg, e0.zh.updR z, e0.zzz, e0.sub.updR g, e0.new, fun j x e => ?_, e0.own, e0.dis⟩, fun j x v e1 e2 o' => ?_⟩
  · obtain ⟨v, h1, h2⟩ := e0.at' j x e
    refine ⟨v, h1, ?_⟩
    cases x with
    | no => trivial
    | val d => exact h2
    | exn e => exact h2
    | own w2 =>
      obtain ⟨q, rfl, h4⟩ := h2
      obtain ⟨hj, e'⟩ := ni e (by simp)
      have hq : q ≠ p := fun hq => key hj e' h1 ⟨⟨w2, rfl⟩, by rw [hq]⟩
      exact ⟨q, rfl, h4.mono .refl fun o q' => by rw [upd_ne hq]; exact q'⟩
  · have hx : x ≠ .no := fun hx => by subst hx; obtain ⟨⟨w, z⟩, _⟩ := o'; cases z
    obtain ⟨hj, e'⟩ := ni e1 hx
    exact key hj e' e2 o'
theorem ER.take (er : ER K Z G H σ env) {p : Addr} {o : HO} (g : G p = none) (z : Z.H p = none) (h : H p = some o) (fr : Free σ env p) : ER K Z (upd G p o) H σ env := by
  refine ⟨er.len, er.zg.trans (.upd g), er.zh, er.zzz, er.sub.upd2 h, fun a n q => ?_, fun j x e => ?_, fun j x v q e1 e2 o' => ?_, er.dis⟩
  · by_cases ha : a = p
    · rw [ha]; exact fun nt => nt.no z
    · rw [upd_ne ha] at n; exact er.new a n q
  · obtain ⟨v, h1, h2'⟩ := er.at' j x e
    refine ⟨v, h1, ?_⟩
    cases x with
    | no => trivial
    | val d => obtain ⟨u, h3, h4⟩ := h2'; exact ⟨u, h3, h4.mono (.upd g)⟩
    | exn e => exact SlotOk.xmono (.upd g) h2'
    | own w2 => obtain ⟨q, h3, h4⟩ := h2'; exact ⟨q, h3, h4.mono (.upd g) fun _ k => k⟩
  · obtain ⟨q1, q2⟩ := er.own j x v q e1 e2 o'
    have hq : q ≠ p := fun hq => fr j x v e1 e2 (by rw [← hq]; exact o')
    exact ⟨by rw [upd_ne hq]; exact q1, q2⟩
theorem ER.lock (er : ER K Z G H σ env) {i : Nat} {t : Bool} {kvs : List (D × D)} (hi : env[i]? = some (.own (.dct t kvs))) :
    ∃ p u, H p = some u ∧ Mut (some u) ∧ ∀ od, ∃ G', Sub G G' ∧ ER K Z G' (upd H p (.frz od u)) σ (env.set i (.val (.dct t true kvs))) := by
  obtain ⟨v, hs, p, rfl, wo⟩ := er.at' i _ hi
  have hl : i < env.length := (List.getElem?_eq_some_iff.mp hi).1
  have back : ∀ {G' H' : Hp} {d : D}, ER K Z G' H' σ (env.set i .no) → Rep K G' (.ref p) d → ER K Z G' H' σ (env.set i (.val d)) := fun {G' H' d} e r => by
    have e2 := e.setV (i := i) r
    rw [List.set_set] at e2
    rw [show σ.set i (some (V.ref p)) = σ from by
      apply List.ext_getElem?
      intro j
      by_cases hj : i = j
      · subst hj; rw [List.getElem?_set_self (er.upTo hl), hs]
      · rw [List.getElem?_set_ne hj]] at e2
    exact e2
  cases t with
  | false =>
    obtain ⟨us, e, r⟩ := wo
    refine ⟨p, _, e, trivial, fun od => ?_⟩
    obtain ⟨g, z, e1, fr⟩ := er.lose (.frz od (.dK us)) hi hs
    exact ⟨upd G p (.frz od (.dK us)), .upd g, back (e1.take g z upd_same fr) (.dk (.on upd_same) (r.mono (.upd g)))⟩
  | true =>
    obtain ⟨us, e, r⟩ := wo
    refine ⟨p, _, e, trivial, fun od => ?_⟩
    obtain ⟨g, z, e1, fr⟩ := er.lose (.frz od (.dT us)) hi hs
    exact ⟨upd G p (.frz od (.dT us)), .upd g, back (e1.take g z upd_same fr) (.dt (.on upd_same) (r.mono (.upd g)))⟩
end

section
variable {X : Cx} {C : CT} {W : WX}
def tPLock (t : TS) : TS := fun D σ H => ∃ d u, H d = some u ∧ Mut (some u) ∧ ∀ od, t D σ (upd H d (.frz od u))
theorem ps_plock {st : Stmt} {t : TS} (h : PS X st t) : PS X st (tPLock t) :=
  ⟨fun pins s σ H D I ⟨d, u, hd, mu, hw⟩ => by
    obtain ⟨od, I1⟩ := I.lock hd mu
    exact h.run pins s σ _ D I1 (hw od)⟩
theorem pss_plock {st : List Stmt} {t : TS} (h : PSs X st t) : PSs X st (tPLock t) :=
  ⟨fun pins s σ H D I ⟨d, u, hd, mu, hw⟩ => by
    obtain ⟨od, I1⟩ := I.lock hd mu
    exact h.run pins s σ _ D I1 (hw od)⟩
def mLock (i : Nat) (m : Env → Out) : Env → Out := fun env => match env.getD i .no with
  | .own (.dct t kvs) => m (env.set i (.val (.dct t true kvs)))
  | _ => .stuck
theorem lock_ghost {m : Env → Out} {i : Nat} {D : Ends} {σ : L2.St} {H : Hp} (h : tS (kc X C) W (mLock i m) D σ H) : tPLock (tS (kc X C) W m) D σ H := by
  obtain ⟨Z, G, env, er, q⟩ := h
  unfold mLock at q
  split at q
  · rename_i t kvs hw
    obtain ⟨p, u, h1, h2, h3⟩ := er.lock (getD_some hw (by simp))
    refine ⟨p, u, h1, h2, fun od => ?_⟩
    obtain ⟨G', s, e⟩ := h3 od
    exact ⟨Z, G', _, e, q.mono s⟩
  · exact q.elim
theorem ds_lock (i : Nat) {st : Stmt} {m : Env → Out} (h : DS X C W st m) : DS X C W st (mLock i m) := ⟨PS.imp (ps_plock h.ps) fun D σ H q => lock_ghost q⟩
theorem dss_lock (i : Nat) {st : List Stmt} {m : Env → Out} (h : DSs X C W st m) : DSs X C W st (mLock i m) := ⟨PSs.imp (pss_plock h.pss) fun D σ H q => lock_ghost q⟩
@[simp] theorem mLock_own {i : Nat} {m : Env → Out} {env : Env} {t : Bool} {kvs : List (D × D)} (h : env.getD i .no = .own (.dct t kvs)) : mLock i m env = m (env.set i (.val (.dct t true kvs))) := by
  unfold mLock; rw [h]

def mNewD (t : Bool) : Env → Rz EV := fun _ => .ok (.ow true (.dct t []))
theorem de_newK {pos : Pos} : DE X C W (.Dict [] [] pos) (mNewD false) := ⟨PE.imp pe_dnewK fun σ H Q ⟨Z, G, env, er, q⟩ p hp =>
  q _ G _ (.lay er.sub hp) ⟨p, rfl, ⟨[], upd_same, .nil⟩, er.sub.none hp, er.zh.none hp, fun _ => hp⟩⟩
theorem de_newT {pos : Pos} : DE X C W (.Dict [] [] pos) (mNewD true) := ⟨PE.imp pe_dnewT fun σ H Q ⟨Z, G, env, er, q⟩ p hp =>
  q _ G _ (.lay er.sub hp) ⟨p, rfl, ⟨[], upd_same, .nil⟩, er.sub.none hp, er.zh.none hp, fun _ => hp⟩⟩

def putK' (i : Nat) (kvs : List (D × D)) (d : D) : EV → Env → Out := fun b env => match b with
  | .fz k => if isKeyD false k = true ∧ kvs.length < sizeLine then .nx (env.set i (.own (.dct false (dstore kvs k d)))) else .stuck
  | _ => .stuck
def mPut (i : Nat) (mk mv : Env → Rz EV) : Env → Out := onE mv fun a env => match a.fr, env.getD i .no with
  | .fz d, .own (.dct false kvs) => onE mk (putK' i kvs d) env
  | _, _ => .stuck
theorem ds_put (i : Nat) {x : Str} {k v : Expr} {mk mv : Env → Rz EV} {xp pos' pos : Pos} (hu : X.A.units + 1 < cLine) (hk : DE X C W k mk) (hv : DE X C W v mv) (hN : X.N[i]? = some x := by rfl) (hx : Vis X.env.scope x := by first | exact Or.inl rfl | exact Or.inr (Or.inl rfl) | exact Or.inr (Or.inr rfl)) (hd : (x == ("__debug__" : Str)) = false := by decide)
    (hcd : (x == ("__classdict__" : Str)) = false := by decide) (hs : swapsWith v (some (.Subscript (.Name x xp) k pos')) pos.line X.env = pure false := by rfl) :
    DS X C W (.Assign [.Subscript (.Name x xp) k pos'] v pos) (mPut i mk mv) :=
  ⟨PS.imp (ps_dput hu (pe_var hN hx hd hcd) hk.pe hv.pe hs) fun D σ H h => onE_go h fun Z G1 H1 env v a er z s va q fr => by
    obtain ⟨G2, s2, er2, va2⟩ := frz_go er va fr
    cases ha : a.fr with
    | ow n w => rw [ha] at q; exact q.elim
    | fz d =>
      rw [ha] at q va2
      have er2z := er2.zh
      split at q
      · rename_i d' kvs hd' hw
        cases hd'
        obtain ⟨v, h1, p, rfl, us, h3, h4⟩ := er2.at' i _ (getD_some hw (by simp))
        refine ⟨.ref p, h1, Z, G2, env, er2, ?_⟩
        unfold onE at q
        cases hm : mk env with
        | stuck => rw [hm] at q; exact q.elim
        | exc e =>
          rw [hm] at q
          exact fun cls d' G' H' x k => q σ H' G' cls d' (s2.trans x.g) (er2.ext x) k
        | ok b =>
          rw [hm] at q
          intro v2 G3 H3 x3 vb
          dsimp only at q
          cases b with
          | ow n w => exact q.elim
          | fz kd =>
            unfold putK' at q
            dsimp only at q
            by_cases hz : isKeyD false kd = true ∧ kvs.length < sizeLine
            · rw [if_pos hz] at q
              obtain ⟨k, hk⟩ := Option.isSome_iff_exists.mp (show (key? kd).isSome = true from hz.1)
              have ek := key?_ok hk
              subst ek
              have e3 := er2.ext x3
              have rk := h4.mono x3.g
              refine ⟨p, _, rfl, .inl ⟨us, k, x3.h _ _ h3, rep_key (K := kc X C) vb, by rw [rk.length]; exact hz.2, rfl⟩, q σ _ G3 (s2.trans x3.g) (e3.put (getD_some hw (by simp)) h1 ⟨_, upd_same, rk.put ?_⟩)⟩
              exact Rep.mono x3.g va2
            · rw [if_neg hz] at q; exact q.elim
      · exact q.elim⟩
theorem dk_ev {K : KC} {Z : Ent} {Hs G H : Hp} {v : V} {a : EV} {l : Bool} {kvs : List (D × D)} (s : Sub G H) (va : EVok K Z Hs G H v a) (h : a.d = .dct false l kvs) : ∃ p us, v = .ref p ∧ Rd H p (.dK us) ∧ RepK K G us kvs := by
  cases a with
  | fz d =>
    have e : d = .dct false l kvs := h
    subst e
    have va' : Rep K G v (.dct false l kvs) := va
    cases va' with
    | dk rd r => exact ⟨_, _, rfl, s.rd rd.rd, r⟩
  | ow n w =>
    cases w with
    | dct t k2 =>
      have e : D.dct t false k2 = .dct false l kvs := h
      cases e
      obtain ⟨p, e, ⟨us, e', r⟩, _⟩ := va
      exact ⟨p, us, e, .of e', r⟩
    | lst _ => cases h
    | ins _ _ => cases h
    | self _ _ => cases h
def dOf : EV → Rz (List (D × D))
  | .fz (.dct false _ kvs) => .ok kvs
  | .ow _ (.dct false kvs) => .ok kvs
  | _ => .stuck
@[simp] theorem dOf_fz (l : Bool) (kvs : List (D × D)) : dOf (.fz (.dct false l kvs)) = .ok kvs := rfl
@[simp] theorem dOf_ow (n : Bool) (kvs : List (D × D)) : dOf (.ow n (.dct false kvs)) = .ok kvs := rfl
theorem dOf_ok {a : EV} {kvs : List (D × D)} (h : dOf a = .ok kvs) : ∃ l, a.d = .dct false l kvs := by
  unfold dOf at h
  split at h
  · cases h; exact ⟨_, rfl⟩
  · cases h; exact ⟨_, rfl⟩
  · cases h
theorem dOf_exc {a : EV} {e : Exn} : dOf a ≠ .exc e := by unfold dOf; split <;> simp
def mGet1 (ma mk : Env → Rz EV) : Env → Rz EV := fun env => ma env >>= fun a => dOf a >>= fun kvs => mk env >>= fun b => match b with
  | .fz k => if isKeyD false k = true then .ok (.fz ((dfind kvs k).getD .non)) else .stuck
  | _ => .stuck
theorem relD_getD {K : KC} {G : Hp} {o : Option V} {p : Option D} {x : V} {d : D} (h : RelD K G o p) (r : Rep K G x d) : Rep K G (o.getD x) (p.getD d) := by
  cases o <;> cases p <;> first | exact r | exact h | exact h.elim
theorem de_get1 {o e : Expr} {mo me : Env → Rz EV} {apos cpos : Pos} (hu : X.A.units + 1 < cLine) (ho : DE X C W o mo) (he : DE X C W e me) (m : M1 X o "get" apos e cpos := by exact ⟨by rfl, by rfl, by rfl, by rfl⟩) : DE X C W (.Call (.Attribute o "get" apos) [e] [] cpos) (mGet1 mo me) :=
  ⟨PE.imp (pe_dget1 hu ho.pe he.pe m) fun σ H Q ⟨Z, G, env, er, q⟩ => by
    unfold mGet1 at q
    refine ⟨Z, G, env, er, ?_⟩
    cases ha : mo env with
    | stuck => rw [ha] at q; exact q.elim
    | exc e => rw [ha] at q; exact q
    | ok a =>
      rw [ha] at q
      simp only [Rz.ok_bind] at q
      intro v G1 H1 x1 va
      cases hd : dOf a with
      | stuck => rw [hd] at q; exact q.elim
      | exc e => exact absurd hd dOf_exc
      | ok kvs =>
        rw [hd] at q
        simp only [Rz.ok_bind] at q
        obtain ⟨l, hl⟩ := dOf_ok hd
        obtain ⟨p, us, e, rd, r⟩ := dk_ev x1.s va hl
        refine ⟨p, e, .inl ⟨us, rd⟩, Z, G1, env, er.ext x1, ?_⟩
        cases hb : me env with
        | stuck => rw [hb] at q; exact q.elim
        | exc e => rw [hb] at q; exact fun cls d G' H' x2 => q cls d G' H' (x1.trans x2)
        | ok b =>
          rw [hb] at q
          simp only [Rz.ok_bind] at q
          intro y G2 H2 x2 vb
          cases b with
          | ow n w => exact q.elim
          | fz kd =>
            dsimp only at q
            by_cases hz : isKeyD false kd = true
            · rw [if_pos hz] at q
              obtain ⟨k, hk⟩ := Option.isSome_iff_exists.mp (show (key? kd).isSome = true from hz)
              have ek := key?_ok hk
              subst ek
              refine ⟨_, .inl ⟨us, k, x2.h.rd rd, rep_key (K := kc X C) vb, rfl⟩, q _ G2 H2 (x1.trans x2) ?_⟩
              exact relD_getD (r.mono x2.g).find .non
            · rw [if_neg hz] at q; exact q.elim⟩
def mGet2 (ma mk mx : Env → Rz EV) : Env → Rz EV := fun env => ma env >>= fun a => dOf a >>= fun kvs => mk env >>= fun b => mx env >>= fun x => match b, x.fr with
  | .fz k, .fz d => if isKeyD false k = true then .ok (.fz ((dfind kvs k).getD d)) else .stuck
  | _, _ => .stuck
theorem de_get2 {o e f : Expr} {mo me mf : Env → Rz EV} {apos cpos : Pos} (hu : X.A.units + 1 < cLine) (ho : DE X C W o mo) (he : DE X C W e me) (hf : DE X C W f mf) (m : M2 X o "get" apos e f cpos := by exact ⟨by rfl, by rfl, by rfl, by rfl⟩) : DE X C W (.Call (.Attribute o "get" apos) [e, f] [] cpos) (mGet2 mo me mf) :=
  ⟨PE.imp (pe_dget2 hu ho.pe he.pe hf.pe m) fun σ H Q ⟨Z, G, env, er, q⟩ => by
    unfold mGet2 at q
    refine ⟨Z, G, env, er, ?_⟩
    cases ha : mo env with
    | stuck => rw [ha] at q; exact q.elim
    | exc e => rw [ha] at q; exact q
    | ok a =>
      rw [ha] at q
      simp only [Rz.ok_bind] at q
      intro v G1 H1 x1 va
      cases hd : dOf a with
      | stuck => rw [hd] at q; exact q.elim
      | exc e => exact absurd hd dOf_exc
      | ok kvs =>
        rw [hd] at q
        simp only [Rz.ok_bind] at q
        obtain ⟨l, hl⟩ := dOf_ok hd
        obtain ⟨p, us, e, rd, r⟩ := dk_ev x1.s va hl
        refine ⟨p, e, .inl ⟨us, rd⟩, Z, G1, env, er.ext x1, ?_⟩
        cases hb : me env with
        | stuck => rw [hb] at q; exact q.elim
        | exc e => rw [hb] at q; exact fun cls d G' H' x2 => q cls d G' H' (x1.trans x2)
        | ok b =>
          rw [hb] at q
          simp only [Rz.ok_bind] at q
          intro y G2 H2 x2 vb
          refine ⟨Z, G2, env, (er.ext x1).ext x2, ?_⟩
          cases hc : mf env with
          | stuck => rw [hc] at q; exact q.elim
          | exc e => rw [hc] at q; exact fun cls d G' H' x3 => q cls d G' H' ((x1.trans x2).trans x3)
          | ok c =>
            rw [hc] at q
            simp only [Rz.ok_bind] at q
            intro y2 G3 H3 x3 vc
            obtain ⟨G4, x4, s4, vc4⟩ := vc.fr x3 .refl
            cases b with
            | ow n w => exact q.elim
            | fz kd =>
              cases hf : c.fr with
              | ow n w => rw [hf] at q; exact q.elim
              | fz d =>
                rw [hf] at q vc4
                dsimp only at q
                by_cases hz : isKeyD false kd = true
                · rw [if_pos hz] at q
                  obtain ⟨k, hk⟩ := Option.isSome_iff_exists.mp (show (key? kd).isSome = true from hz)
                  have ek := key?_ok hk
                  subst ek
                  refine ⟨_, .inl ⟨us, k, (x2.trans x4).h.rd rd, rep_key (K := kc X C) vb, rfl⟩, q _ G4 H3 ((x1.trans x2).trans x4) ?_⟩
                  exact relD_getD (r.mono (x2.trans x4).g).find vc4
                · rw [if_neg hz] at q; exact q.elim⟩

def truD : D → Option Bool
  | .non => some false
  | .bl b => some b
  | .int i => some (i != 0)
  | .str y => if y.length ≤ sizeLine then some ((y.length : Int) != 0) else none
  | .tup ds => some (!ds.isEmpty)
  | .lst ds => some (!ds.isEmpty)
  | .scr ds => some (!ds.isEmpty)
  | .dct false _ kvs => some (!kvs.isEmpty)
  | _ => none
def mTr (m : Env → Rz EV) : Env → Rz Bool := fun env => m env >>= fun a => orStuck (truD a.d)
def rTruX (K : PySem.W.Frag) : V → Hp → (Bool → Hp → Prop) → Prop := fun x H Q => (∃ k, TruV K x H k ∧ Q k H) ∨ ∃ a kvs, x = .ref a ∧ Rd H a (.dK kvs) ∧ Q (!kvs.isEmpty) H
theorem tru_X : TruR X (rTruX X.K) := by
  intro pins s σ H x v Q I rx h
  rcases h with h | ⟨a, kvs, e, rd, q⟩
  · exact tru_ok pins s σ H x v Q I rx h
  · subst e
    obtain rfl : v = Value.ref a := rx
    exact d_truth I rd fun s' I' => ⟨H, I', q⟩
theorem reps_empty {K : KC} {G : Hp} {vs : List V} {ds : List D} (r : Reps K G vs ds) : vs.isEmpty = ds.isEmpty := by cases r <;> rfl
theorem tru_of {K : KC} {H : Hp} {x : V} {d : D} {k : Bool} {Q : Bool → Hp → Prop} (r : Rep K H x d) (h : truD d = some k) (q : Q k H) : rTruX K.K x H Q := by
  cases r with
  | non => cases h; exact .inl ⟨_, rfl, q⟩
  | bl b => cases h; exact .inl ⟨_, rfl, q⟩
  | int i => cases h; exact .inl ⟨_, rfl, q⟩
  | str y =>
    replace h : (if y.length ≤ sizeLine then some ((y.length : Int) != 0) else none) = some k := h
    split at h
    · rename_i hz; cases h; exact .inl ⟨_, ⟨hz, rfl⟩, q⟩
    · cases h
  | tup sq r => cases h; exact .inl ⟨_, .inr (.inl ⟨_, sq, by rw [reps_empty r]⟩), q⟩
  | lst sq r => cases h; exact .inl ⟨_, .inl ⟨_, .of sq, by rw [reps_empty r]⟩, q⟩
  | scr sq => cases h; exact .inl ⟨_, .inl ⟨_, sq, by simp⟩, q⟩
  | dk rd r =>
    cases h
    refine .inr ⟨_, _, rfl, rd.rd, ?_⟩
    have : ∀ {kvs : List (Key × V)} {ds : List (D × D)}, RepK K H kvs ds → kvs.isEmpty = ds.isEmpty := fun r => by cases r <;> rfl
    rw [this r]; exact q
  | _ => cases h
theorem dt_tru {e : Expr} {m : Env → Rz EV} (h : DE X C W e m) (he : ∀ whole, isTrue e X.env whole = (do let v ← whole; standAt e.pos; holding [v] (truthy v)) := by intro _; rfl) : DT X C W e (mTr m) :=
  ⟨PT.imp (pt_truthR h.pe tru_X he) fun σ H Q ⟨Z, G, env, er, q⟩ => by
    unfold mTr at q
    refine ⟨Z, G, env, er, ?_⟩
    cases ha : m env with
    | stuck => rw [ha] at q; exact q.elim
    | exc e => rw [ha] at q; exact q
    | ok a =>
      rw [ha] at q
      simp only [Rz.ok_bind] at q
      intro v G1 H1 x1 va
      cases hk : truD a.d with
      | none => rw [hk] at q; exact q.elim
      | some k =>
        rw [hk] at q
        exact tru_of (va.rep x1.s) hk (q G1 H1 x1)⟩
end
end DL
namespace DL
open PySem PySem.Spec PyProof.Rows L2

def NoOwn (us : List Nat) (p : D → Env → Rz Env) : Prop := ∀ d env en, p d env = .ok en → ∀ i w, en[i]? = some (.own w) → env[i]? = some (.own w) ∧ i ∉ us
def NoOwns (us : List Nat) (p : List D → Env → Rz Env) : Prop := ∀ d env en, p d env = .ok en → ∀ i w, en[i]? = some (.own w) → env[i]? = some (.own w) ∧ i ∉ us
theorem nw_name (i : Nat) : NoOwn [i] (pName i) := fun d env en h j w e => by
  cases h
  have hj : i ≠ j := fun hj => by
    subst hj
    by_cases hl : i < env.length
    · rw [List.getElem?_set_self hl] at e; cases e
    · rw [List.getElem?_eq_none (by simpa using hl)] at e; cases e
  rw [List.getElem?_set_ne hj] at e
  exact ⟨e, by simpa using Ne.symm hj⟩
theorem nw_nil : NoOwns [] pNil := fun d env en h j w e => by
  unfold pNil at h
  split at h
  · cases h; exact ⟨e, by simp⟩
  · cases h
theorem nw_cons {v1 v2 : List Nat} {p : D → Env → Rz Env} {r : List D → Env → Rz Env} (h1 : NoOwn v1 p) (h2 : NoOwns v2 r) : NoOwns (v1 ++ v2) (pCons p r) := fun ds env en h j w e => by
  unfold pCons at h
  split at h
  · rename_i d ds
    cases hp : p d env with
    | stuck => rw [hp] at h; cases h
    | exc e => rw [hp] at h; cases h
    | ok e1 =>
      rw [hp] at h
      obtain ⟨a, b⟩ := h2 ds e1 en h j w e
      obtain ⟨c, d⟩ := h1 _ env e1 hp j w a
      exact ⟨c, by rw [List.mem_append, not_or]; exact ⟨d, b⟩⟩
  · cases h
theorem nw_tup {vs : List Nat} {r : List D → Env → Rz Env} {n : Nat} (h : NoOwns vs r) : NoOwn vs (pTup r n) := fun d env en q j w e => by
  unfold pTup at q
  split at q
  · split at q
    · exact h _ env en q j w e
    · cases q
  · cases q
section
variable {K : KC} {Z : Ent} {G H : Hp} {σ : L2.St} {env : Env} {p : Addr}
theorem Free.set {i : Nat} (h : Free σ env p) : Free (σ.set i none) (env.set i .no) p := fun j x v e1 e2 o => by
  have hj : i ≠ j := fun hj => by
    subst hj
    by_cases hl : i < env.length
    · rw [List.getElem?_set_self hl] at e1; cases e1; obtain ⟨⟨w, z⟩, _⟩ := o; cases z
    · rw [List.getElem?_eq_none (by simpa using hl)] at e1; cases e1
  rw [List.getElem?_set_ne hj] at e1 e2
  exact h j x v e1 e2 o
theorem Free.wipe (h : Free σ env p) : ∀ vs : List Nat, Free (L2.wipe σ vs) (wipeE env vs) p
  | [] => h
  | v :: vs => (h.wipe vs).set
theorem Free.tgt {σ' : L2.St} {us : List Nat} {q : D → Env → Rz Env} {d : D} {en : Env} (h : Free σ env p) (n : NoOwn us q) (e : q d env = .ok en) (f : ∀ i, i ∉ us → σ'[i]? = σ[i]?) : Free σ' en p := fun j x v e1 e2 o => by
  obtain ⟨⟨w, rfl⟩, ev⟩ := o
  obtain ⟨a, b⟩ := n d env en e j w e1
  exact h j _ v a (by rw [← f j b]; exact e2) ⟨⟨w, rfl⟩, ev⟩
theorem ER.upd (er : ER K Z G H σ env) (fr : Free σ env p) (g : G p = none) (z : Z.H p = none) (o : HO) : ER K Z G (L2.upd H p o) σ env := by
  refine ⟨er.len, er.zg, er.zh.updR z, er.zzz, er.sub.updR g, er.new, fun j x e => ?_, er.own, er.dis⟩
  obtain ⟨u, h1, h2⟩ := er.at' j x e
  refine ⟨u, h1, ?_⟩
  cases x with
  | no => trivial
  | val d => exact h2
  | exn e => exact h2
  | own w =>
    obtain ⟨q', h3, h4⟩ := h2
    have hq : q' ≠ p := fun hq => fr j _ u e h1 ⟨⟨w, rfl⟩, by rw [h3, hq]⟩
    exact ⟨q', h3, h4.mono .refl fun o k => by rw [upd_ne hq]; exact k⟩
end
def lc2F (p : D → Env → Rz Env) (t : Env → Rz Bool) (it1 : Env → Rz (List D)) (p1 : D → Env → Rz Env) (t1 : Env → Rz Bool) (e : Env → Rz EV) (vs1 : List Nat) (env : Env) : List D → List D → Rz (List D)
  | [], acc => .ok acc
  | d :: ds, acc => match p d env with
    | .ok en => (match t en with
      | .ok true => (match it1 en with
        | .ok ds1 => (match lcF p1 t1 e (wipeE en vs1) ds1 acc with
          | .ok acc2 => lc2F p t it1 p1 t1 e vs1 env ds acc2
          | _ => .stuck)
        | _ => .stuck)
      | .ok false => lc2F p t it1 p1 t1 e vs1 env ds acc
      | _ => .stuck)
    | _ => .stuck
def mLc2 (it : Env → Rz (List D)) (p : D → Env → Rz Env) (t : Env → Rz Bool) (it1 : Env → Rz (List D)) (p1 : D → Env → Rz Env) (t1 : Env → Rz Bool) (e : Env → Rz EV) (vs vs1 : List Nat) : Env → Rz EV := fun env => it env >>= fun ds => match lc2F p t it1 p1 t1 e vs1 (wipeE env vs) ds [] with
  | .ok out => .ok (.ow true (.lst out))
  | _ => .stuck
section
variable {X : Cx} {C : CT} {W : WX}
structure Grow (K : KC) (Z : Ent) (G1 H1 : Hp) (LD : Addr) (G' H' : Hp) (acc : List D) : Prop where
  ext : Ext G1 (upd H1 LD (.lst [])) G' (upd H' LD (.lst []))
  at' : ∃ avs, H' LD = some (.lst avs) ∧ Reps K G' avs acc
  g : G' LD = none
theorem Grow.step {K : KC} {Z : Ent} {G1 H1 G2 H2 G5 H5 : Hp} {LD : Addr} {acc : List D} (h : Grow K Z G1 H1 LD G2 H2 acc) (x : Ext G2 H2 G5 H5) : Grow K Z G1 H1 LD G5 H5 acc := by
  obtain ⟨x2, ⟨avs, hl2, ra⟩, hg2⟩ := h
  have hg5 : G5 LD = none := x.n LD hg2 ⟨_, hl2, rfl⟩
  refine ⟨⟨x2.g.trans x.g, fun a o k => ?_, x.s.updR hg5, fun a k n => ?_⟩, ⟨avs, x.h _ _ hl2, ra.mono x.g⟩, hg5⟩
  · by_cases ha : a = LD
    · subst ha; rw [upd_same] at k ⊢; exact k
    · have := x2.h a o k
      rw [upd_ne ha] at this ⊢
      exact x.h a o this
  · by_cases ha : a = LD
    · rw [ha]; exact hg5
    · refine x.n a (x2.n a k n) ?_
      have n2 := n.mono x2.h
      obtain ⟨o, e, z⟩ := n2
      rw [upd_ne ha] at e
      exact ⟨o, e, z⟩
theorem Grow.put {K : KC} {Z : Ent} {G1 H1 G2 H2 : Hp} {LD : Addr} {acc : List D} {avs : List V} {v : V} {y : D} (h : Grow K Z G1 H1 LD G2 H2 acc) (e : H2 LD = some (.lst avs)) (r : Rep K G2 v y) : Grow K Z G1 H1 LD G2 (upd H2 LD (.lst (avs ++ [v]))) (acc ++ [y]) := by
  obtain ⟨x2, ⟨avs', hl2, ra⟩, hg2⟩ := h
  rw [e] at hl2; cases hl2
  exact ⟨by rw [upd_upd]; exact x2, ⟨_, upd_same, ra.append (.cons r .nil)⟩, hg2⟩
theorem lc2_go {it it1 : Env → Rz (List D)} {us us1 : List Nat} {p p1 : D → Env → Rz Env} {t t1 : Env → Rz Bool} {e : Env → Rz EV} {vs vs1 : List Nat} {σ : L2.St} {H : Hp} {Q : VK} (hu : ∀ i ∈ us, i ∈ vs) (hu1 : ∀ i ∈ us1, i ∈ vs1) (hv : ∀ i ∈ vs1, i ∈ vs) (nw : NoOwn us p) (nw1 : NoOwn us1 p1)
    (h : tE (kc X C) W (mLc2 it p t it1 p1 t1 e vs vs1) σ H Q) : tLc2 (tI (kc X C) W it) (tG (kc X C) us p) (tT (kc X C) W0 t) (tI (kc X C) W0 it1) (tG (kc X C) us1 p1) (tT (kc X C) W0 t1) (tE (kc X C) W0 e) vs vs1 σ H Q := by
  obtain ⟨Z, G, env, er, q⟩ := h
  unfold mLc2 at q
  refine ⟨Z, G, env, er, ?_⟩
  cases hit : it env with
  | stuck => rw [hit] at q; exact q.elim
  | exc e => rw [hit] at q; exact q
  | ok ds =>
    rw [hit] at q
    simp only [Rz.ok_bind] at q
    intro J G1 H1 x1 io LD hD
    cases hlc : lc2F p t it1 p1 t1 e vs1 (wipeE env vs) ds [] with
    | stuck => rw [hlc] at q; exact q.elim
    | exc e => rw [hlc] at q; exact q.elim
    | ok out =>
      rw [hlc] at q
      dsimp only at q
      have e1 := er.ext x1
      have zD : Z.H LD = none := by
        cases z : Z.H LD with
        | none => rfl
        | some o =>
          have := e1.zh LD o z
          rw [hD] at this; cases this
      have fr : Free (L2.wipe σ vs) (wipeE env vs) LD := (e1.free hD).wipe vs
      refine ⟨fun i m H' => m + i = ds.length ∧ ∃ G' acc, Grow (kc X C) Z G1 H1 LD G' H' acc ∧ ER (kc X C) Z G' H' (L2.wipe σ vs) (wipeE env vs) ∧ lc2F p t it1 p1 t1 e vs1 (wipeE env vs) (ds.drop i) acc = .ok out,
        ⟨ds.length, rfl, G1, [], ⟨(by rw [upd_upd]; exact Ext.refl (x1.s.updR (x1.s.none hD))), ⟨[], upd_same, .nil⟩, x1.s.none hD⟩, (e1.ext (.lay x1.s hD)).wipe vs, hlc⟩, ?_⟩
      rintro i m H2 ⟨hm, G2, acc, gr, er2, run⟩
      have s12 : Sub G1 G2 := gr.ext.g
      by_cases hl : i < ds.length
      · refine .inr ⟨io.go i G2 H2 hl s12 er2.sub, fun H' => ∃ G' acc, Grow (kc X C) Z G1 H1 LD G' H' acc ∧ ER (kc X C) Z G' H' (L2.wipe σ vs) (wipeE env vs) ∧ lc2F p t it1 p1 t1 e vs1 (wipeE env vs) (ds.drop (i + 1)) acc = .ok out,
          fun H' h => ⟨m - 1, by omega, by omega, h⟩, fun x H3 y => ?_⟩
        obtain ⟨d, G3, hd, x3, rd⟩ := io.yld i x G2 H2 H3 hl s12 er2.sub y
        have hdrop : ds.drop i = d :: ds.drop (i + 1) := by
          obtain ⟨hl', e⟩ := List.getElem?_eq_some_iff.mp hd
          rw [List.drop_eq_getElem_cons hl', e]
        rw [hdrop] at run
        unfold lc2F at run
        refine ⟨Z, G3, wipeE env vs, d, er2.ext x3, rd, ?_⟩
        cases hpd : p d (wipeE env vs) with
        | stuck => rw [hpd] at run; cases run
        | exc e => rw [hpd] at run; cases run
        | ok en =>
          rw [hpd] at run
          dsimp only at run
          intro σ4 er4 l4 f4
          have fr4 : Free σ4 en LD := fr.tgt nw hpd f4
          refine ⟨wipe_eq l4 hu f4, Z, G3, en, er4, ?_⟩
          cases ht : t en with
          | stuck => rw [ht] at run; cases run
          | exc e => rw [ht] at run; cases run
          | ok k =>
            rw [ht] at run
            intro G5 H5 x5
            cases k with
            | false =>
              rw [if_neg Bool.false_ne_true]
              exact ⟨G5, acc, gr.step (x3.trans x5), er2.ext (x3.trans x5), run⟩
            | true =>
              rw [if_pos rfl]
              dsimp only at run
              refine ⟨Z, G5, en, er4.ext x5, ?_⟩
              cases hi1 : it1 en with
              | stuck => rw [hi1] at run; cases run
              | exc e => rw [hi1] at run; cases run
              | ok ds1 =>
                rw [hi1] at run
                dsimp only at run
                intro J1 G6 H6 x6 io1
                have g6 := gr.step ((x3.trans x5).trans x6)
                have o6 := er2.ext ((x3.trans x5).trans x6)
                have i6 := ((er4.ext x5).ext x6).wipe vs1
                have fr6 : Free (L2.wipe σ4 vs1) (wipeE en vs1) LD := fr4.wipe vs1
                cases hin : lcF p1 t1 e (wipeE en vs1) ds1 acc with
                | stuck => rw [hin] at run; cases run
                | exc e => rw [hin] at run; cases run
                | ok acc2 =>
                  rw [hin] at run
                  dsimp only at run
                  refine ⟨fun j k H' => k + j = ds1.length ∧ ∃ G' acc', Sub G6 G' ∧ Grow (kc X C) Z G1 H1 LD G' H' acc' ∧ ER (kc X C) Z G' H' (L2.wipe σ vs) (wipeE env vs) ∧ ER (kc X C) Z G' H' (L2.wipe σ4 vs1) (wipeE en vs1) ∧ lcF p1 t1 e (wipeE en vs1) (ds1.drop j) acc' = .ok acc2,
                    ⟨ds1.length, rfl, G6, acc, .refl, g6, o6, i6, hin⟩, ?_⟩
                  rintro j k H7 ⟨hk, G7, acc', s67, g7, o7, i7, run7⟩
                  by_cases hj : j < ds1.length
                  · refine .inr ⟨io1.go j G7 H7 hj s67 i7.sub, fun H' => ∃ G' acc', Sub G6 G' ∧ Grow (kc X C) Z G1 H1 LD G' H' acc' ∧ ER (kc X C) Z G' H' (L2.wipe σ vs) (wipeE env vs) ∧ ER (kc X C) Z G' H' (L2.wipe σ4 vs1) (wipeE en vs1) ∧ lcF p1 t1 e (wipeE en vs1) (ds1.drop (j + 1)) acc' = .ok acc2,
                      fun H' h => ⟨k - 1, by omega, by omega, h⟩, fun x1' H8 y1 => ?_⟩
                    obtain ⟨d1, G8, hd1, x8, rd1⟩ := io1.yld j x1' G7 H7 H8 hj s67 i7.sub y1
                    have hdrop1 : ds1.drop j = d1 :: ds1.drop (j + 1) := by
                      obtain ⟨hl', e⟩ := List.getElem?_eq_some_iff.mp hd1
                      rw [List.drop_eq_getElem_cons hl', e]
                    rw [hdrop1] at run7
                    unfold lcF at run7
                    refine ⟨Z, G8, wipeE en vs1, d1, i7.ext x8, rd1, ?_⟩
                    cases hp1 : p1 d1 (wipeE en vs1) with
                    | stuck => rw [hp1] at run7; cases run7
                    | exc e => rw [hp1] at run7; cases run7
                    | ok en1 =>
                      rw [hp1] at run7
                      dsimp only at run7
                      intro σ9 er9 l9 f9
                      refine ⟨wipe_eq l9 hu1 f9, Z, G8, en1, er9, ?_⟩
                      cases ht1 : t1 en1 with
                      | stuck => rw [ht1] at run7; cases run7
                      | exc e => rw [ht1] at run7; cases run7
                      | ok k1 =>
                        rw [ht1] at run7
                        intro G10 H10 x10
                        have x810 := x8.trans x10
                        cases k1 with
                        | false =>
                          rw [if_neg Bool.false_ne_true]
                          exact ⟨G10, acc', s67.trans x810.g, g7.step x810, o7.ext x810, i7.ext x810, run7⟩
                        | true =>
                          rw [if_pos rfl]
                          dsimp only at run7
                          refine ⟨Z, G10, en1, er9.ext x10, ?_⟩
                          cases he : e en1 with
                          | stuck => rw [he] at run7; cases run7
                          | exc e => rw [he] at run7; cases run7
                          | ok ev =>
                            rw [he] at run7
                            dsimp only at run7
                            intro v G11 H11 x11 v11
                            obtain ⟨G12, x12, s12', v12⟩ := v11.fr x11 .refl
                            cases hf : ev.fr with
                            | ow n w => rw [hf] at run7; cases run7
                            | fz y =>
                              rw [hf] at run7 v12
                              dsimp only at run7
                              by_cases hz : acc'.length < sizeLine
                              · rw [if_pos hz] at run7
                                have x812 := x810.trans x12
                                have gg := g7.step x812
                                obtain ⟨avs, ha, ra⟩ := gg.at'
                                refine ⟨avs, ha, by rw [ra.length]; exact hz, G12, acc' ++ [y], s67.trans x812.g, gg.put ha v12, (o7.ext x812).upd fr gg.g zD _, (i7.ext x812).upd fr6 gg.g zD _, run7⟩
                              · rw [if_neg hz] at run7; cases run7
                  · have ej : j = ds1.length := by omega
                    subst ej
                    rw [List.drop_length] at run7
                    unfold lcF at run7
                    cases run7
                    exact .inl ⟨io1.stop G7 H7 s67 i7.sub, G7, _, g7, o7, run⟩
      · have ei : i = ds.length := by omega
        subst ei
        rw [List.drop_length] at run
        unfold lc2F at run
        cases run
        obtain ⟨x2, ⟨avs, hl2, ra⟩, hg2⟩ := gr
        refine .inl ⟨io.stop G2 H2 x2.g er2.sub, q (.ref LD) G2 H2 ?_ ⟨LD, rfl, ⟨avs, hl2, ra⟩, hg2, zD, fun _ => x1.h |> fun s => ?_⟩⟩
        · refine ⟨x1.g.trans x2.g, fun a o k => ?_, er2.sub, fun a k n => ?_⟩
          · have ha : a ≠ LD := fun ha => by subst ha; have := x1.h a o k; rw [hD] at this; cases this
            have := x2.h a o (by rw [upd_ne ha]; exact x1.h a o k)
            rw [upd_ne ha] at this; exact this
          · by_cases ha : a = LD
            · rw [ha]; exact hg2
            · refine x2.n a (x1.n a k n) ?_
              obtain ⟨o, e, z⟩ := n.mono x1.h
              exact ⟨o, by rw [upd_ne ha]; exact e, z⟩
        · exact s.none hD
theorem de_lc2 {elt tg iter tg1 iter1 : Expr} {ifs ifs1 : List Expr} {scope : Scope} {own : List (Str × Nat)} {pos : Pos} {it it1 : Env → Rz (List D)} {us us1 vs vs1 : List Nat} {p p1 : D → Env → Rz Env} {t t1 : Env → Rz Bool} {e : Env → Rz EV} (hN : X.N.Nodup) (hi : DI X C W tg iter it) (ok : BlkOk X.N X.env.scope scope own) (hvs : vs = own.map (·.2)) (hu : ∀ i ∈ us, i ∈ vs) (hu1 : ∀ i ∈ us1, i ∈ vs1) (hv : ∀ i ∈ vs1, i ∈ vs) (nw : NoOwn us p) (nw1 : NoOwn us1 p1)
    (hg : ∀ (s : Shared) (H : Hp) (L : Addr) (cl : List (Str × Addr)) (fp : List Addr), DG (X.blk s H scope (compEnvC scope cl L X.env) fp) C tg us p) (ht : ∀ (s : Shared) (H : Hp) (L : Addr) (cl : List (Str × Addr)) (fp : List Addr), DTs (X.blk s H scope (compEnvC scope cl L X.env) fp) C W0 ifs t)
    (hi1 : ∀ (s : Shared) (H : Hp) (L : Addr) (cl : List (Str × Addr)) (fp : List Addr), DI (X.blk s H scope (compEnvC scope cl L X.env) fp) C W0 tg1 iter1 it1) (hg1 : ∀ (s : Shared) (H : Hp) (L : Addr) (cl : List (Str × Addr)) (fp : List Addr), DG (X.blk s H scope (compEnvC scope cl L X.env) fp) C tg1 us1 p1) (ht1 : ∀ (s : Shared) (H : Hp) (L : Addr) (cl : List (Str × Addr)) (fp : List Addr), DTs (X.blk s H scope (compEnvC scope cl L X.env) fp) C W0 ifs1 t1)
    (he : ∀ (s : Shared) (H : Hp) (L : Addr) (cl : List (Str × Addr)) (fp : List Addr), DE (X.blk s H scope (compEnvC scope cl L X.env) fp) C W0 elt e)
    (hc : X.calm = true := by rfl) (hs : ∀ x, foldedSetIterable iter X.env x = pure x := by intro _; rfl) (hs1 : ∀ env x, foldedSetIterable iter1 env x = pure x := by intro _ _; rfl) :
    DE X C W (.ListComp elt [⟨tg, iter, ifs, 0⟩, ⟨tg1, iter1, ifs1, 0⟩] scope pos) (mLc2 it p t it1 p1 t1 e vs vs1) := by
  subst hvs
  exact ⟨PE.imp (pe_lc2 hc hN hi.pi ok hv (fun s H L cl fp => (hg s H L cl fp).pg) (fun s H L cl fp => (ht s H L cl fp).pts) (fun s H L cl fp => (hi1 s H L cl fp).pi) (fun s H L cl fp => (hg1 s H L cl fp).pg) (fun s H L cl fp => (ht1 s H L cl fp).pts) (fun s H L cl fp => (he s H L cl fp).pe) hs hs1) fun σ H Q h => lc2_go hu hu1 hv nw nw1 h⟩
theorem ds_setLc2F {i : Nat} {y : Str} {py : Pos} {elt tg iter tg1 iter1 : Expr} {ifs ifs1 : List Expr} {scope : Scope} {own : List (Str × Nat)} {pos spos : Pos} {it it1 : Env → Rz (List D)} {us us1 vs vs1 : List Nat} {p p1 : D → Env → Rz Env} {t t1 : Env → Rz Bool} {e : Env → Rz EV} (hsw : swapsWith (.ListComp elt [⟨tg, iter, ifs, 0⟩, ⟨tg1, iter1, ifs1, 0⟩] scope pos) (some (.Name y py)) spos.line X.env = pure true) (hN : X.N.Nodup) (hi : DI X C W tg iter it) (ok : BlkOk X.N X.env.scope scope own) (hvs : vs = own.map (·.2)) (hu : ∀ i ∈ us, i ∈ vs) (hu1 : ∀ i ∈ us1, i ∈ vs1) (hv : ∀ i ∈ vs1, i ∈ vs) (nw : NoOwn us p) (nw1 : NoOwn us1 p1)
    (hg : ∀ (s : Shared) (H : Hp) (L : Addr) (cl : List (Str × Addr)) (fp : List Addr), DG (X.blk s H scope (compEnvC scope cl L X.env) fp) C tg us p) (ht : ∀ (s : Shared) (H : Hp) (L : Addr) (cl : List (Str × Addr)) (fp : List Addr), DTs (X.blk s H scope (compEnvC scope cl L X.env) fp) C W0 ifs t)
    (hi1 : ∀ (s : Shared) (H : Hp) (L : Addr) (cl : List (Str × Addr)) (fp : List Addr), DI (X.blk s H scope (compEnvC scope cl L X.env) fp) C W0 tg1 iter1 it1) (hg1 : ∀ (s : Shared) (H : Hp) (L : Addr) (cl : List (Str × Addr)) (fp : List Addr), DG (X.blk s H scope (compEnvC scope cl L X.env) fp) C tg1 us1 p1) (ht1 : ∀ (s : Shared) (H : Hp) (L : Addr) (cl : List (Str × Addr)) (fp : List Addr), DTs (X.blk s H scope (compEnvC scope cl L X.env) fp) C W0 ifs1 t1)
    (he : ∀ (s : Shared) (H : Hp) (L : Addr) (cl : List (Str × Addr)) (fp : List Addr), DE (X.blk s H scope (compEnvC scope cl L X.env) fp) C W0 elt e)
    (hy : X.N[i]? = some y := by rfl) (hyl : X.env.scope.names.lookup y = some .local := by rfl) (hc : X.calm = true := by rfl) (hs : ∀ x, foldedSetIterable iter X.env x = pure x := by intro _; rfl) (hs1 : ∀ env x, foldedSetIterable iter1 env x = pure x := by intro _ _; rfl) :
    DS X C W (.Assign [.Name y py] (.ListComp elt [⟨tg, iter, ifs, 0⟩, ⟨tg1, iter1, ifs1, 0⟩] scope pos) spos) (mSetF i (mLc2 it p t it1 p1 t1 e vs vs1)) := by
  subst hvs
  exact ⟨PS.imp (ps_setLc2 hc hN hy hyl hsw hi.pi ok hv (fun s H L cl fp => (hg s H L cl fp).pg) (fun s H L cl fp => (ht s H L cl fp).pts) (fun s H L cl fp => (hi1 s H L cl fp).pi) (fun s H L cl fp => (hg1 s H L cl fp).pg) (fun s H L cl fp => (ht1 s H L cl fp).pts) (fun s H L cl fp => (he s H L cl fp).pe) hs hs1) fun D σ H h => lc2_go hu hu1 hv nw nw1 (onE_go h fun Z G1 H1 env v a er z s va q fr => by
    obtain ⟨G2, s2, er2, va2⟩ := frz_go er va fr
    unfold stF at q
    cases ha : a.fr with
    | ow n w => rw [ha] at q; exact q.elim
    | fz d =>
      rw [ha] at q va2
      exact q _ H1 G2 s2 (er2.setV va2))⟩
theorem ds_setLc2O {i : Nat} {y : Str} {py : Pos} {elt tg iter tg1 iter1 : Expr} {ifs ifs1 : List Expr} {scope : Scope} {own : List (Str × Nat)} {pos spos : Pos} {it it1 : Env → Rz (List D)} {us us1 vs vs1 : List Nat} {p p1 : D → Env → Rz Env} {t t1 : Env → Rz Bool} {e : Env → Rz EV} (hsw : swapsWith (.ListComp elt [⟨tg, iter, ifs, 0⟩, ⟨tg1, iter1, ifs1, 0⟩] scope pos) (some (.Name y py)) spos.line X.env = pure true) (hN : X.N.Nodup) (hi : DI X C W tg iter it) (ok : BlkOk X.N X.env.scope scope own) (hvs : vs = own.map (·.2)) (hu : ∀ i ∈ us, i ∈ vs) (hu1 : ∀ i ∈ us1, i ∈ vs1) (hv : ∀ i ∈ vs1, i ∈ vs) (nw : NoOwn us p) (nw1 : NoOwn us1 p1)
    (hg : ∀ (s : Shared) (H : Hp) (L : Addr) (cl : List (Str × Addr)) (fp : List Addr), DG (X.blk s H scope (compEnvC scope cl L X.env) fp) C tg us p) (ht : ∀ (s : Shared) (H : Hp) (L : Addr) (cl : List (Str × Addr)) (fp : List Addr), DTs (X.blk s H scope (compEnvC scope cl L X.env) fp) C W0 ifs t)
    (hi1 : ∀ (s : Shared) (H : Hp) (L : Addr) (cl : List (Str × Addr)) (fp : List Addr), DI (X.blk s H scope (compEnvC scope cl L X.env) fp) C W0 tg1 iter1 it1) (hg1 : ∀ (s : Shared) (H : Hp) (L : Addr) (cl : List (Str × Addr)) (fp : List Addr), DG (X.blk s H scope (compEnvC scope cl L X.env) fp) C tg1 us1 p1) (ht1 : ∀ (s : Shared) (H : Hp) (L : Addr) (cl : List (Str × Addr)) (fp : List Addr), DTs (X.blk s H scope (compEnvC scope cl L X.env) fp) C W0 ifs1 t1)
    (he : ∀ (s : Shared) (H : Hp) (L : Addr) (cl : List (Str × Addr)) (fp : List Addr), DE (X.blk s H scope (compEnvC scope cl L X.env) fp) C W0 elt e)
    (hy : X.N[i]? = some y := by rfl) (hyl : X.env.scope.names.lookup y = some .local := by rfl) (hc : X.calm = true := by rfl) (hs : ∀ x, foldedSetIterable iter X.env x = pure x := by intro _; rfl) (hs1 : ∀ env x, foldedSetIterable iter1 env x = pure x := by intro _ _; rfl) :
    DS X C W (.Assign [.Name y py] (.ListComp elt [⟨tg, iter, ifs, 0⟩, ⟨tg1, iter1, ifs1, 0⟩] scope pos) spos) (mSetO i (mLc2 it p t it1 p1 t1 e vs vs1)) := by
  subst hvs
  exact ⟨PS.imp (ps_setLc2 hc hN hy hyl hsw hi.pi ok hv (fun s H L cl fp => (hg s H L cl fp).pg) (fun s H L cl fp => (ht s H L cl fp).pts) (fun s H L cl fp => (hi1 s H L cl fp).pi) (fun s H L cl fp => (hg1 s H L cl fp).pg) (fun s H L cl fp => (ht1 s H L cl fp).pts) (fun s H L cl fp => (he s H L cl fp).pe) hs hs1) fun D σ H h => lc2_go hu hu1 hv nw nw1 (onE_go h fun Z G1 H1 env v a er z s va q fr => by
    unfold stO at q
    split at q
    · rename_i w
      obtain ⟨p, rfl, h1, h2, h3, h4⟩ := va
      exact q _ H1 G1 .refl (er.setO h1 h2 h3 fun j x v _ e1 e2 => fr p (h4 rfl) j x v e1 e2)
    · exact q.elim)⟩

def dcF (p : D → Env → Rz Env) (t : Env → Rz Bool) (k v : Env → Rz EV) (env : Env) : List D → List (D × D) → Rz (List (D × D))
  | [], acc => .ok acc
  | d :: ds, acc => match p d env with
    | .ok en => (match t en with
      | .ok true => (match k en with
        | .ok (.fz kd) => (match v en with
          | .ok ev => (match ev.fr with
            | .fz y => if isKeyD false kd = true ∧ acc.length < sizeLine then dcF p t k v env ds (dstore acc kd y) else .stuck
            | _ => .stuck)
          | _ => .stuck)
        | _ => .stuck)
      | .ok false => dcF p t k v env ds acc
      | _ => .stuck)
    | _ => .stuck
def mDc (it : Env → Rz (List D)) (p : D → Env → Rz Env) (t : Env → Rz Bool) (k v : Env → Rz EV) (vs : List Nat) : Env → Rz EV := fun env => it env >>= fun ds => match dcF p t k v (wipeE env vs) ds [] with
  | .ok out => .ok (.ow true (.dct false out))
  | _ => .stuck
structure GrowD (K : KC) (Z : Ent) (G1 H1 : Hp) (LD : Addr) (G' H' : Hp) (acc : List (D × D)) : Prop where
  ext : Ext G1 (upd H1 LD (.lst [])) G' (upd H' LD (.lst []))
  at' : ∃ avs, H' LD = some (.dK avs) ∧ RepK K G' avs acc
  g : G' LD = none
theorem GrowD.step {K : KC} {Z : Ent} {G1 H1 G2 H2 G5 H5 : Hp} {LD : Addr} {acc : List (D × D)} (h : GrowD K Z G1 H1 LD G2 H2 acc) (x : Ext G2 H2 G5 H5) : GrowD K Z G1 H1 LD G5 H5 acc := by
  obtain ⟨x2, ⟨avs, hl2, ra⟩, hg2⟩ := h
  have hg5 : G5 LD = none := x.n LD hg2 ⟨_, hl2, rfl⟩
  refine ⟨⟨x2.g.trans x.g, fun a o k => ?_, x.s.updR hg5, fun a k n => ?_⟩, ⟨avs, x.h _ _ hl2, ra.mono x.g⟩, hg5⟩
  · by_cases ha : a = LD
    · subst ha; rw [upd_same] at k ⊢; exact k
    · have := x2.h a o k
      rw [upd_ne ha] at this ⊢
      exact x.h a o this
  · by_cases ha : a = LD
    · rw [ha]; exact hg5
    · refine x.n a (x2.n a k n) ?_
      have n2 := n.mono x2.h
      obtain ⟨o, e, z⟩ := n2
      rw [upd_ne ha] at e
      exact ⟨o, e, z⟩
theorem dc_go {it : Env → Rz (List D)} {us : List Nat} {p : D → Env → Rz Env} {t : Env → Rz Bool} {k v : Env → Rz EV} {vs : List Nat} {σ : L2.St} {H : Hp} {Q : VK} (hu : ∀ i ∈ us, i ∈ vs)
    (h : tE (kc X C) W (mDc it p t k v vs) σ H Q) : tDc (tI (kc X C) W it) (tG (kc X C) us p) (tT (kc X C) W0 t) (tE (kc X C) W0 k) (tE (kc X C) W0 v) vs σ H Q := by
  obtain ⟨Z, G, env, er, q⟩ := h
  unfold mDc at q
  refine ⟨Z, G, env, er, ?_⟩
  cases hit : it env with
  | stuck => rw [hit] at q; exact q.elim
  | exc e => rw [hit] at q; exact q
  | ok ds =>
    rw [hit] at q
    simp only [Rz.ok_bind] at q
    intro J G1 H1 x1 io LD hD
    cases hlc : dcF p t k v (wipeE env vs) ds [] with
    | stuck => rw [hlc] at q; exact q.elim
    | exc e => rw [hlc] at q; exact q.elim
    | ok out =>
      rw [hlc] at q
      dsimp only at q
      have e1 := er.ext x1
      have zD : Z.H LD = none := by
        cases z : Z.H LD with
        | none => rfl
        | some o =>
          have := e1.zh LD o z
          rw [hD] at this; cases this
      have fr : Free (L2.wipe σ vs) (wipeE env vs) LD := (e1.free hD).wipe vs
      refine ⟨fun i m H' => m + i = ds.length ∧ ∃ G' acc, GrowD (kc X C) Z G1 H1 LD G' H' acc ∧ ER (kc X C) Z G' H' (L2.wipe σ vs) (wipeE env vs) ∧ dcF p t k v (wipeE env vs) (ds.drop i) acc = .ok out,
        ⟨ds.length, rfl, G1, [], ⟨(by rw [upd_upd]; exact Ext.refl (x1.s.updR (x1.s.none hD))), ⟨[], upd_same, .nil⟩, x1.s.none hD⟩, (e1.ext (.lay x1.s hD)).wipe vs, hlc⟩, ?_⟩
      rintro i m H2 ⟨hm, G2, acc, gr, er2, run⟩
      have s12 : Sub G1 G2 := gr.ext.g
      by_cases hl : i < ds.length
      · refine .inr ⟨io.go i G2 H2 hl s12 er2.sub, fun H' => ∃ G' acc, GrowD (kc X C) Z G1 H1 LD G' H' acc ∧ ER (kc X C) Z G' H' (L2.wipe σ vs) (wipeE env vs) ∧ dcF p t k v (wipeE env vs) (ds.drop (i + 1)) acc = .ok out,
          fun H' h => ⟨m - 1, by omega, by omega, h⟩, fun x H3 y => ?_⟩
        obtain ⟨d, G3, hd, x3, rd⟩ := io.yld i x G2 H2 H3 hl s12 er2.sub y
        have hdrop : ds.drop i = d :: ds.drop (i + 1) := by
          obtain ⟨hl', e⟩ := List.getElem?_eq_some_iff.mp hd
          rw [List.drop_eq_getElem_cons hl', e]
        rw [hdrop] at run
        unfold dcF at run
        refine ⟨Z, G3, wipeE env vs, d, er2.ext x3, rd, ?_⟩
        cases hpd : p d (wipeE env vs) with
        | stuck => rw [hpd] at run; cases run
        | exc e => rw [hpd] at run; cases run
        | ok en =>
          rw [hpd] at run
          dsimp only at run
          intro σ4 er4 l4 f4
          refine ⟨wipe_eq l4 hu f4, Z, G3, en, er4, ?_⟩
          cases ht : t en with
          | stuck => rw [ht] at run; cases run
          | exc e => rw [ht] at run; cases run
          | ok b =>
            rw [ht] at run
            intro G5 H5 x5
            cases b with
            | false =>
              rw [if_neg Bool.false_ne_true]
              exact ⟨G5, acc, gr.step (x3.trans x5), er2.ext (x3.trans x5), run⟩
            | true =>
              rw [if_pos rfl]
              dsimp only at run
              refine ⟨Z, G5, en, er4.ext x5, ?_⟩
              cases hk : k en with
              | stuck => rw [hk] at run; cases run
              | exc e => rw [hk] at run; cases run
              | ok ke =>
                rw [hk] at run
                intro kv G6 H6 x6 k6
                cases ke with
                | ow n w => cases run
                | fz kd =>
                  dsimp only at run
                  refine ⟨Z, G6, en, (er4.ext x5).ext x6, ?_⟩
                  cases he : v en with
                  | stuck => rw [he] at run; cases run
                  | exc e => rw [he] at run; cases run
                  | ok ev =>
                    rw [he] at run
                    dsimp only at run
                    intro vv G11 H11 x11 v11
                    obtain ⟨G12, x12, s12', v12⟩ := v11.fr x11 .refl
                    cases hf : ev.fr with
                    | ow n w => rw [hf] at run; cases run
                    | fz y =>
                      rw [hf] at run v12
                      dsimp only at run
                      by_cases hz : isKeyD false kd = true ∧ acc.length < sizeLine
                      · rw [if_pos hz] at run
                        obtain ⟨kk, hkk⟩ := Option.isSome_iff_exists.mp (show (key? kd).isSome = true from hz.1)
                        have ek := key?_ok hkk
                        subst ek
                        have xx := (x3.trans (x5.trans (x6.trans x12)))
                        have gg := gr.step xx
                        obtain ⟨avs, ha, ra⟩ := gg.at'
                        refine ⟨avs, kk, rep_key (K := kc X C) k6, ha, by rw [ra.length]; exact hz.2, G12, dstore acc (dkV kk) y, ⟨by rw [upd_upd]; exact gg.ext, ⟨_, upd_same, ra.put v12⟩, gg.g⟩, (er2.ext xx).upd fr gg.g zD _, run⟩
                      · rw [if_neg hz] at run; cases run
      · have ei : i = ds.length := by omega
        subst ei
        rw [List.drop_length] at run
        unfold dcF at run
        cases run
        obtain ⟨x2, ⟨avs, hl2, ra⟩, hg2⟩ := gr
        refine .inl ⟨io.stop G2 H2 x2.g er2.sub, q (.ref LD) G2 H2 ?_ ⟨LD, rfl, ⟨avs, hl2, ra⟩, hg2, zD, fun _ => x1.h |> fun s => ?_⟩⟩
        · refine ⟨x1.g.trans x2.g, fun a o k => ?_, er2.sub, fun a k n => ?_⟩
          · have ha : a ≠ LD := fun ha => by subst ha; have := x1.h a o k; rw [hD] at this; cases this
            have := x2.h a o (by rw [upd_ne ha]; exact x1.h a o k)
            rw [upd_ne ha] at this; exact this
          · by_cases ha : a = LD
            · rw [ha]; exact hg2
            · refine x2.n a (x1.n a k n) ?_
              obtain ⟨o, e, z⟩ := n.mono x1.h
              exact ⟨o, by rw [upd_ne ha]; exact e, z⟩
        · exact s.none hD
theorem de_dc {kx vx tg iter : Expr} {ifs : List Expr} {scope : Scope} {own : List (Str × Nat)} {pos : Pos} {it : Env → Rz (List D)} {us vs : List Nat} {p : D → Env → Rz Env} {t : Env → Rz Bool} {k v : Env → Rz EV} (hN : X.N.Nodup) (hi : DI X C W tg iter it) (ok : BlkOk X.N X.env.scope scope own) (hvs : vs = own.map (·.2))
    (hu : ∀ i ∈ us, i ∈ vs)
    (hg : ∀ (s : Shared) (H : Hp) (L : Addr) (cl : List (Str × Addr)) (fp : List Addr), DG (X.blk s H scope (compEnvC scope cl L X.env) fp) C tg us p) (ht : ∀ (s : Shared) (H : Hp) (L : Addr) (cl : List (Str × Addr)) (fp : List Addr), DTs (X.blk s H scope (compEnvC scope cl L X.env) fp) C W0 ifs t)
    (hk : ∀ (s : Shared) (H : Hp) (L : Addr) (cl : List (Str × Addr)) (fp : List Addr), DE (X.blk s H scope (compEnvC scope cl L X.env) fp) C W0 kx k) (he : ∀ (s : Shared) (H : Hp) (L : Addr) (cl : List (Str × Addr)) (fp : List Addr), DE (X.blk s H scope (compEnvC scope cl L X.env) fp) C W0 vx v) (hc : X.calm = true := by rfl) (hs : ∀ x, foldedSetIterable iter X.env x = pure x := by intro _; rfl) :
    DE X C W (.DictComp kx vx [⟨tg, iter, ifs, 0⟩] scope pos) (mDc it p t k v vs) := by
  subst hvs
  exact ⟨PE.imp (pe_dc hc hN hi.pi ok (fun s H L cl fp => (hg s H L cl fp).pg) (fun s H L cl fp => (ht s H L cl fp).pts) (fun s H L cl fp => (hk s H L cl fp).pe) (fun s H L cl fp => (he s H L cl fp).pe) hs) fun σ H Q h => dc_go hu h⟩
end
end DL
namespace DS
open PySem PySem.Spec PyProof.Rows L2 DL
section
variable {P : Program} {w : World} {A : Around} {E : Value → Shared → Prop} {s : Shared} {a : Addr} {S : Key → Bool} {n : Nat}
theorem addW {k : Key} {u : Value} (hk : keyIs k u = true) {Q : Value → Shared → Prop} (R : SetW w s.heap a S n) (room : n + 1 < scanBound)
    (fin : ∀ h1 tk, Heap.SameBut a s.heap h1 → SetW w h1 a (fun j => S j || decide (j = k)) (if S k = true then n else n + 1) → Q .none { s with heap := h1, toks := tk }) : wpAny (model P w) A (call (.builtin "set.add") [.ref a, u]) Q E s := by
  refine wpAny_call_entry F.slot_set_add (R.setOf (P := P)).typeIs F.entry_set_add ?_ (F.args_set_add_2 _ _)
  unfold Builtin.«set.add» Builtin.Frozenset.oneOther
  simp only [List.isEmpty_nil, bind_assoc]
  unfold Builtin.Frozenset.addrOf setAdd
  refine wpAny_bind (wpAny_pure (wpAny_bind (wpAny_pure (wpAny_bind (wpAny_holding (wpAny_bind ((mixKind P w).pyHash (k := k) hk ?_)))))))
  refine add_hashed (P := P) (s := { s with toks := s.toks + 1 }) hk R room fun h1 sb r => ?_
  exact wpAny_pure ⟨_, rfl, fin h1 _ sb r⟩
theorem freshW {h : Heap} : SetW w (h.push { cls := .type "set", dict := none, data := .set #[] 0 (.fresh 0 0 (!w.params.followText "set-order")) }) h.objs.size (fun _ => false) 0 := by
  refine ⟨_, #[], 0, _, Heap.get?_push_size _ rfl, ⟨⟨rfl, rfl, rfl⟩, rfl⟩, ⟨fun e he => by simp at he, by simp, fun k => by simp⟩, ⟨by decide, rfl, rfl⟩, List.Pairwise.nil, ?_⟩
  cases hf : w.params.followText "set-order" with
  | true => exact .inl rfl
  | false => right; rfl
end
section
variable {X : Cx} {pins : List (Addr × Obj)} {σ : L2.St} {H : Hp} {s : Shared}
theorem addW_ok {E : Value → Shared → Prop} {p : Addr} {S : Key → Bool} {n : Nat} {k : Key} {u : Value} {Q : Value → Shared → Prop} (I : Inv X pins σ H s) (e : H p = some (SWO X.w p S n)) (room : n + 1 < scanBound) (r : RelV (kV k) u)
    (q : ∀ z, Inv X pins σ (upd H p (SWO X.w p (fun j => S j || decide (j = k)) (if S k = true then n else n + 1))) z → Q .none z) : wpAny (model X.prog X.w) X.A (call (.builtin "set.add") [.ref p, u]) Q E s :=
  addW (P := X.prog) (kV_is (P := X.prog) (w := X.w) r) (swo_get I e) room fun h1 tk sb new =>
    q _ (I.write (e := p) (t' := tk) (by rw [e]; trivial) (.inl rfl) (fun b o hb hu => (sb.2 b hb).trans hu) (have ⟨o, _, _, _, ho, _⟩ := new; ⟨o, ho⟩) (swo_new new))

variable {fp : List Addr} {scope : Scope} {own : List (Str × Nat)}
abbrev blkEnv (X : Cx) (scope : Scope) (s : Shared) : PySem.Env := compEnvC scope (cellsFrom (s.heap.objs.size + 1) scope.names (cloFrom X.env.cells scope.names [])) s.heap.objs.size X.env
abbrev blkSt (scope : Scope) (s : Shared) : Shared := { s with heap := pushCells (s.heap.push { cls := .type "dict", data := .dict #[] }) scope.names }
theorem blk_fp {H1 : Hp} {z z1 : Shared} {ce : PySem.Env} {σ1 : L2.St} (J : Inv (X.blk z H scope ce fp) [] σ1 H1 z1) (n : ∀ b ∈ fp, H1 b = none) (b : Addr) (hb : b ∈ fp) : FpOk (X.blk z H scope ce fp) [] H1 b := by
  have x := J.ok.exf b hb
  exact ⟨n b hb, x.1, J.ok.exfs b hb, .inl hb, fun y c e => x.2 y c e, fun p hp => by
    rw [List.append_nil] at hp
    exact absurd (show p ∈ ([] : List (Addr × Obj)) from hp) (by simp)⟩
theorem blk_turn {P : Program} {w : World} {K : PySem.W.Frag} {tg : Expr} {Jt : It} {it : Addr} {tn : Nat → Heap → Prop} {H1 : Hp} {z z1 z7 : Shared} {ce : PySem.Env} {σ1 : L2.St} {i : Nat} {vs : List Nat} (T : Turn P w K tg Jt fp it tn) (st : tn i z7.heap)
    (J : Inv (X.blk z H scope ce fp) ([] ++ pinsAt fp z7.heap) σ1 H1 z1) (e : wipe σ1 vs = wipe σ vs) : Inv (X.blk z H scope ce fp) [] (wipe σ vs) H1 z1 ∧ tn i z1.heap ∧ ∀ b ∈ fp, H1 b = none := by
  have stay : ∀ b ∈ fp, ∀ o, z7.heap.get? b = some o → z1.heap.get? b = some o ∧ H1 b = none := fun b hb o he =>
    have q := J.pin (b, o) (List.mem_append_right _ (List.mem_append_right _ (mem_pinsAt hb he)))
    ⟨q.1, q.2.1⟩
  refine ⟨(J.unpinned (pins := [])).weak (by rw [← e, wipe_length]) fun j v hv => ?_, T.keep _ _ _ st fun b hb o he => (stay b hb o he).1, fun b hb => ?_⟩
  · exact (wipe_some (by rw [← e] at hv; exact hv)).1
  · have ⟨o, he, _⟩ := T.obj _ _ st b hb
    exact (stay b hb o he).2
def tSw (w : World) (wi : TI) (g : TG) (tt : TT) (te : TE) (vs : List Nat) : TE := fun σ H Q => wi σ H fun J H1 => ∀ p, H1 p = none → ∃ R : Nat → Nat → Hp → Prop, (∃ m, R 0 m (upd H1 p (SWO w p (fun _ => false) 0))) ∧ ∀ i m H, R i m H →
  (J.stop i H ∧ Q (.ref p) H) ∨ (J.go i H ∧ ∃ Nx : Hp → Prop, (∀ H', Nx H' → ∃ m', m' < m ∧ R (i + 1) m' H') ∧ ∀ x H', J.yld i H x H' → g x (wipe σ vs) H' fun σ2 H2 => wipe σ2 vs = wipe σ vs ∧ tt σ2 H2 fun b H3 =>
    if b = true then te σ2 H3 fun y H4 => ∃ (k : Key) (S : Key → Bool) (n : Nat), y = kV k ∧ H4 p = some (SWO w p S n) ∧ n + 1 < scanBound ∧ Nx (upd H4 p (SWO w p (fun j => S j || decide (j = k)) (if S k = true then n else n + 1))) else Nx H3)
abbrev InBlk (X : Cx) (scope : Scope) (P : Cx → Prop) : Prop := ∀ (s : Shared) (H : Hp) (L : Addr) (cl : List (Str × Addr)) (fp : List Addr), P (X.blk s H scope (compEnvC scope cl L X.env) fp)
theorem pe_sw {elt tg iter : Expr} {ifs : List Expr} {pos : Pos} {wi : TI} {g : TG} {tt : TT} {te : TE} (calm : X.calm = true) (nd : X.N.Nodup) (pi : PI X tg iter wi) (ok : BlkOk X.N X.env.scope scope own)
    (pg : InBlk X scope fun Y => PG Y tg g) (pt : InBlk X scope fun Y => PTs Y ifs tt) (pe : InBlk X scope fun Y => PE Y elt te) (fold : ∀ x, foldedSetIterable iter X.env x = pure x := by intro _; rfl) :
    PE X (.SetComp elt [⟨tg, iter, ifs, 0⟩] scope pos) (tSw X.w wi g tt te (own.map (·.2))) := by
  refine ⟨fun pins s σ H Q I h => ?_⟩
  rw [PpSet.eval_SetComp]
  have clo : closureFor scope X.env = pure (cloFrom X.env.cells scope.names []) := closure_ok fun y hy e => I.ok.has _ (ok.free y hy e)
  refine wpAny_comprehension_free (use := none) rfl fold clo ok.kind (fun y hy e => by rw [ok.uniq y hy, e]) (thn (pi.run pins s σ H _ I h) fun _ z1 h1 => thn h1 fun _ z2 h2 => ?_)
  obtain ⟨it, fp, tn, Jt, H2, rfl, I2, T, st2, f2, q⟩ := h2
  refine PpSet.newSet_ok (newEnv_comp ?_)
  -- the set is laid
  let D := z2.heap.objs.size
  have nD : H2 D = none := I2.hok.fresh (Nat.le_refl _)
  obtain ⟨R, ⟨m0, r0⟩, turn⟩ := q D nD
  let z3 : Shared := { z2 with heap := z2.heap.push { cls := .type "set", dict := none, data := .set #[] 0 (.fresh 0 0 (!X.w.params.followText "set-order")) } }
  have I3 : Inv X pins σ (upd H2 D (SWO X.w D (fun _ => false) 0)) z3 := I2.laid (t' := z2.toks) (fun b o e => Heap.get?_push_of_some _ e) (Nat.le_refl _) (swo_new freshW)
  have old : ∀ b ∈ fp, b < D := fun b hb => have ⟨o, e, _⟩ := T.obj _ _ st2 b hb; Heap.lt_size e
  have f3 : ∀ b ∈ fp, FpOk X pins (upd H2 D (SWO X.w D (fun _ => false) 0)) b ∧ b < z3.heap.objs.size := fun b hb =>
    ⟨⟨by rw [upd_ne (Nat.ne_of_lt (old b hb))]; exact (f2 b hb).1, (f2 b hb).2⟩, by rw [show z3.heap.objs.size = D + 1 from Heap.size_push _ _]; exact Nat.lt_succ_of_lt (old b hb)⟩
  have st3 : tn 0 z3.heap := T.keep _ _ _ st2 fun b _ o e => Heap.get?_push_of_some _ e
  -- the block is entered
  have I4 := block_start I3 ok nd f3
  have st4 : tn 0 (blkSt scope z3).heap := T.keep _ _ _ st3 fun b _ o e => pushCells_keeps _ _ _ _ (Heap.get?_push_of_some _ e)
  have g4 := pg z3 (upd H2 D (SWO X.w D (fun _ => false) 0)) z3.heap.objs.size (cellsFrom (z3.heap.objs.size + 1) scope.names (cloFrom X.env.cells scope.names [])) fp
  have t4 := pt z3 (upd H2 D (SWO X.w D (fun _ => false) 0)) z3.heap.objs.size (cellsFrom (z3.heap.objs.size + 1) scope.names (cloFrom X.env.cells scope.names [])) fp
  have e4 := pe z3 (upd H2 D (SWO X.w D (fun _ => false) 0)) z3.heap.objs.size (cellsFrom (z3.heap.objs.size + 1) scope.names (cloFrom X.env.cells scope.names [])) fp
  have n4 : ∀ b ∈ fp, (upd H2 D (SWO X.w D (fun _ => false) 0)) b = none := fun b hb => (f3 b hb).1.1
  have body : codeAny (model X.prog X.w) X.A (.compLoop (.SetComp elt [⟨tg, iter, ifs, 0⟩] scope pos) 0 (.ref it) (.ref D) (blkEnv X scope z3)) (compPost (model X.prog X.w) X.A X.xe none (EP X pins σ Q) (.ref D) z3.heap.objs.size) (blkSt scope z3) := by
    refine PpSet.compLoopS_any (fun m z => ∃ i H', Inv (X.blk z3 (upd H2 D (SWO X.w D (fun _ => false) 0)) scope (blkEnv X scope z3) fp) [] (wipe σ (own.map (·.2))) H' z ∧ tn i z.heap ∧ (∀ b ∈ fp, H' b = none) ∧ R i m H') ?_ m0 ⟨0, _, I4, st4, n4, r0⟩
    rintro m z5 ⟨i, H5, I5, st5, n5, r5⟩
    rcases turn i m H5 r5 with ⟨stop, fin⟩ | ⟨go, Nx, less, step⟩
    · refine thnF (T.done (X.blk z3 (upd H2 D (SWO X.w D (fun _ => false) 0)) scope (blkEnv X scope z3) fp) rfl rfl rfl calm i [] z5 _ H5 (fun _ _ => False) I5 (blk_fp I5 n5) st5 stop) fun r z6 ⟨er, I6⟩ => ?_
      subst er
      have I7 : Inv X pins σ H5 z6 := I3.call' (ch := fp) I6.os I6.base I6.hok I6.bare fun b hb => have f := (f3 b hb).1.2; ⟨f.2.2.1, f.1, f.2.2.2⟩
      have ⟨mm, ns, _⟩ := I6.loc
      have fpC : FpOk X pins H5 z3.heap.objs.size := I3.fpOk (Nat.le_refl _) I6.free
      exact ⟨mm, ns, fun h2 sb => ⟨.ref D, H5, I7.turned (t' := z6.toks) (fun b o hb e => (sb.2 b hb).trans e) fpC.1 fpC.2.1 fpC.2.2.2.1 fpC.2.2.2.2.1 fpC.2.2.2.2.2, rfl, fin⟩⟩
    · refine thnF (T.item (X.blk z3 (upd H2 D (SWO X.w D (fun _ => false) 0)) scope (blkEnv X scope z3) fp) rfl rfl rfl calm i [] z5 _ H5 (fun _ _ => False) I5 (blk_fp I5 n5) st5 go) fun r z6 ⟨u, er, h6⟩ => ?_
      subst er
      refine thnF h6 fun _ z7 ⟨x, H7, I7, r7, y7, st7, n7⟩ => ?_
      refine thnF (g4.run _ z7 _ H7 x u _ (I7.pinned (blk_fp I7 n7) (T.obj _ _ st7)) r7 (step x H7 y7)) fun _ z8 ⟨σ8, H8, I8, e8, q8⟩ => ?_
      have done : ∀ {z' : Shared} {H' : Hp}, Inv (X.blk z3 (upd H2 D (SWO X.w D (fun _ => false) 0)) scope (blkEnv X scope z3) fp) ([] ++ pinsAt fp z7.heap) σ8 H' z' → Nx H' →
          ∃ m', m' < m ∧ ∃ i H', Inv (X.blk z3 (upd H2 D (SWO X.w D (fun _ => false) 0)) scope (blkEnv X scope z3) fp) [] (wipe σ (own.map (·.2))) H' z' ∧ tn i z'.heap ∧ (∀ b ∈ fp, H' b = none) ∧ R i m' H' := fun {z' H'} J nx =>
        have ⟨m', hm, r'⟩ := less H' nx
        have ⟨a1, a2, a3⟩ := blk_turn T st7 J e8
        ⟨m', hm, i + 1, H', a1, a2, a3, r'⟩
      refine thnF (t4.run _ z8 σ8 H8 _ I8 q8) fun b z9 ⟨H9, I9, q9⟩ => ?_
      cases b with
      | false => exact done I9 q9
      | true =>
        refine thnF (e4.run _ z9 σ8 H9 _ I9 q9) fun v z10 ⟨y, H10, I10, r10, k, S, n, ey, e10, room, nx⟩ => ?_
        subst ey
        exact addW_ok (X := X.blk z3 (upd H2 D (SWO X.w D (fun _ => false) 0)) scope (blkEnv X scope z3) fp) I10 e10 room r10 fun z11 I11 => done I11 nx
  exact PpSet.codeAny_compStart_set body (T.self X.A 0 _ _ _ st4 body)
end
end DS
namespace DL
open PySem PySem.Spec PyProof.Rows L2

def mSortSc (it : Env → Rz (List D)) (p : D → Env → Rz Env) (t : Env → Rz Bool) (e : Env → Rz EV) (vs : List Nat) : Env → Rz EV := fun env => it env >>= fun ds => match lcF p t e (wipeE env vs) ds [] with
  | .ok out => (match strsD out with
    | some ys => if ds.length < 4000 then .ok (.ow true (.lst ((DS.sortU ys).map .str))) else .stuck
    | none => .stuck)
  | _ => .stuck
structure GrowS (K : KC) (w : World) (Z : Ent) (G1 H1 : Hp) (LD : Addr) (G' H' : Hp) (acc : List Str) : Prop where
  ext : Ext G1 (upd H1 LD (.lst [])) G' (upd H' LD (.lst []))
  at' : ∃ S n, H' LD = some (DS.SWO w LD S n) ∧ n ≤ acc.length ∧ ∀ k, S k = true ↔ ∃ x ∈ acc, k = .inr x
  g : G' LD = none
theorem GrowS.step {K : KC} {w : World} {Z : Ent} {G1 H1 G2 H2 G5 H5 : Hp} {LD : Addr} {acc : List Str} (h : GrowS K w Z G1 H1 LD G2 H2 acc) (x : Ext G2 H2 G5 H5) : GrowS K w Z G1 H1 LD G5 H5 acc := by
  obtain ⟨x2, ⟨S, n, hl2, ra⟩, hg2⟩ := h
  have hg5 : G5 LD = none := x.n LD hg2 ⟨_, hl2, rfl⟩
  refine ⟨⟨x2.g.trans x.g, fun a o k => ?_, x.s.updR hg5, fun a k n => ?_⟩, ⟨S, n, x.h _ _ hl2, ra⟩, hg5⟩
  · by_cases ha : a = LD
    · subst ha; rw [upd_same] at k ⊢; exact k
    · have := x2.h a o k
      rw [upd_ne ha] at this ⊢
      exact x.h a o this
  · by_cases ha : a = LD
    · rw [ha]; exact hg5
    · refine x.n a (x2.n a k n) ?_
      have n2 := n.mono x2.h
      obtain ⟨o, e, z⟩ := n2
      rw [upd_ne ha] at e
      exact ⟨o, e, z⟩
theorem lcF_pre {p : D → Env → Rz Env} {t : Env → Rz Bool} {e : Env → Rz EV} {env : Env} : ∀ {ds acc out : List D}, lcF p t e env ds acc = .ok out → ∃ r, out = acc ++ r
  | [], acc, out, h => by cases h; exact ⟨[], by simp⟩
  | d :: ds, acc, out, h => by
    unfold lcF at h
    cases hp : p d env with
    | stuck => rw [hp] at h; cases h
    | exc e => rw [hp] at h; cases h
    | ok en =>
      rw [hp] at h
      dsimp only at h
      cases ht : t en with
      | stuck => rw [ht] at h; cases h
      | exc e => rw [ht] at h; cases h
      | ok b =>
        rw [ht] at h
        cases b with
        | false => exact lcF_pre h
        | true =>
          dsimp only at h
          cases he : e en with
          | stuck => rw [he] at h; cases h
          | exc e => rw [he] at h; cases h
          | ok ev =>
            rw [he] at h
            dsimp only at h
            cases hf : ev.fr with
            | ow n w => rw [hf] at h; cases h
            | fz y =>
              rw [hf] at h
              dsimp only at h
              by_cases hz : acc.length < sizeLine
              · rw [if_pos hz] at h
                obtain ⟨r, hr⟩ := lcF_pre h
                exact ⟨y :: r, by rw [hr]; simp⟩
              · rw [if_neg hz] at h; cases h
theorem map_app_inv {xs : List Str} {a r : List D} (h : xs.map D.str = a ++ r) : ∃ u v, xs = u ++ v ∧ a = u.map D.str ∧ r = v.map D.str := by
  refine ⟨xs.take a.length, xs.drop a.length, (List.take_append_drop _ _).symm, ?_, ?_⟩
  · rw [List.map_take, h]; simp
  · rw [List.map_drop, h]; simp
section
variable {X : Cx} {C : CT} {W : WX}
theorem sc_go {it : Env → Rz (List D)} {us : List Nat} {p : D → Env → Rz Env} {t : Env → Rz Bool} {e : Env → Rz EV} {vs : List Nat} {σ : L2.St} {H : Hp} {Q : VK} (hu : ∀ i ∈ us, i ∈ vs)
    (h : tE (kc X C) W (mSortSc it p t e vs) σ H Q) : DS.tSw X.w (tI (kc X C) W it) (tG (kc X C) us p) (tT (kc X C) W0 t) (tE (kc X C) W0 e) vs σ H fun v H1 => DS.rSortW X.w [v] H1 Q := by
  obtain ⟨Z, G, env, er, q⟩ := h
  unfold mSortSc at q
  refine ⟨Z, G, env, er, ?_⟩
  cases hit : it env with
  | stuck => rw [hit] at q; exact q.elim
  | exc e => rw [hit] at q; exact q
  | ok ds =>
    rw [hit] at q
    simp only [Rz.ok_bind] at q
    intro J G1 H1 x1 io LD hD
    cases hlc : lcF p t e (wipeE env vs) ds [] with
    | stuck => rw [hlc] at q; exact q.elim
    | exc e => rw [hlc] at q; exact q.elim
    | ok out =>
      rw [hlc] at q
      dsimp only at q
      cases hst : strsD out with
      | none => rw [hst] at q; exact q.elim
      | some ys =>
      rw [hst] at q
      dsimp only at q
      by_cases h4 : ¬ ds.length < 4000
      · rw [if_neg h4] at q; exact q.elim
      replace h4 : ds.length < 4000 := Decidable.not_not.mp h4
      rw [if_pos h4] at q
      have eout := strsD_ok hst
      subst eout
      have e1 := er.ext x1
      have zD : Z.H LD = none := by
        cases z : Z.H LD with
        | none => rfl
        | some o =>
          have := e1.zh LD o z
          rw [hD] at this; cases this
      have fr : Free (L2.wipe σ vs) (wipeE env vs) LD := (e1.free hD).wipe vs
      refine ⟨fun i m H' => m + i = ds.length ∧ ∃ G' acc, GrowS (kc X C) X.w Z G1 H1 LD G' H' acc ∧ acc.length ≤ i ∧ ER (kc X C) Z G' H' (L2.wipe σ vs) (wipeE env vs) ∧ lcF p t e (wipeE env vs) (ds.drop i) (acc.map D.str) = .ok (ys.map D.str),
        ⟨ds.length, rfl, G1, [], ⟨(by rw [upd_upd]; exact Ext.refl (x1.s.updR (x1.s.none hD))), ⟨_, 0, upd_same, Nat.le_refl _, fun k => by simp⟩, x1.s.none hD⟩, Nat.le_refl _, (e1.ext (.lay x1.s hD)).wipe vs, hlc⟩, ?_⟩
      rintro i m H2 ⟨hm, G2, acc, gr, hal, er2, run⟩
      have s12 : Sub G1 G2 := gr.ext.g
      by_cases hl : i < ds.length
      · refine .inr ⟨io.go i G2 H2 hl s12 er2.sub, fun H' => ∃ G' acc, GrowS (kc X C) X.w Z G1 H1 LD G' H' acc ∧ acc.length ≤ i + 1 ∧ ER (kc X C) Z G' H' (L2.wipe σ vs) (wipeE env vs) ∧ lcF p t e (wipeE env vs) (ds.drop (i + 1)) (acc.map D.str) = .ok (ys.map D.str),
          fun H' h => ⟨m - 1, by omega, by omega, h⟩, fun x H3 y => ?_⟩
        obtain ⟨d, G3, hd, x3, rd⟩ := io.yld i x G2 H2 H3 hl s12 er2.sub y
        have hdrop : ds.drop i = d :: ds.drop (i + 1) := by
          obtain ⟨hl', e⟩ := List.getElem?_eq_some_iff.mp hd
          rw [List.drop_eq_getElem_cons hl', e]
        rw [hdrop] at run
        unfold lcF at run
        refine ⟨Z, G3, wipeE env vs, d, er2.ext x3, rd, ?_⟩
        cases hpd : p d (wipeE env vs) with
        | stuck => rw [hpd] at run; cases run
        | exc e => rw [hpd] at run; cases run
        | ok en =>
          rw [hpd] at run
          dsimp only at run
          intro σ4 er4 l4 f4
          refine ⟨wipe_eq l4 hu f4, Z, G3, en, er4, ?_⟩
          cases ht : t en with
          | stuck => rw [ht] at run; cases run
          | exc e => rw [ht] at run; cases run
          | ok b =>
            rw [ht] at run
            intro G5 H5 x5
            cases b with
            | false =>
              rw [if_neg Bool.false_ne_true]
              exact ⟨G5, acc, gr.step (x3.trans x5), Nat.le_succ_of_le hal, er2.ext (x3.trans x5), run⟩
            | true =>
              rw [if_pos rfl]
              dsimp only at run
              refine ⟨Z, G5, en, er4.ext x5, ?_⟩
              cases he : e en with
              | stuck => rw [he] at run; cases run
              | exc e => rw [he] at run; cases run
              | ok ev =>
                rw [he] at run
                dsimp only at run
                intro vv G11 H11 x11 v11
                obtain ⟨G12, x12, s12', v12⟩ := v11.fr x11 .refl
                cases hf : ev.fr with
                | ow n w => rw [hf] at run; cases run
                | fz yd =>
                  rw [hf] at run v12
                  dsimp only at run
                  by_cases hz : (acc.map D.str).length < sizeLine
                  · rw [if_pos hz] at run
                    have xx := (x3.trans (x5.trans x12))
                    have gg := gr.step xx
                    obtain ⟨S, n, ha, hn, hS⟩ := gg.at'
                    obtain ⟨r, hr⟩ := lcF_pre run
                    obtain ⟨u, v, e1', e2, e3⟩ := map_app_inv hr
                    obtain ⟨x', ex'⟩ : ∃ x', yd = .str x' := by
                      have hm : yd ∈ u.map D.str := by rw [← e2]; simp
                      obtain ⟨z, _, hz⟩ := List.mem_map.mp hm
                      exact ⟨z, hz.symm⟩
                    subst ex'
                    have hv : vv = .str x' := rep_str (K := kc X C) v12
                    subst hv
                    refine ⟨.inr x', S, n, rfl, ha, ?_, G12, acc ++ [x'], ⟨by rw [upd_upd]; exact gg.ext, ⟨_, _, upd_same, ?_, fun k => ?_⟩, gg.g⟩, by simp; omega, (er2.ext xx).upd fr gg.g zD _, by rw [List.map_append]; exact run⟩
                    · show n + 1 < 4096; omega
                    · rw [List.length_append]
                      split <;> simp <;> omega
                    · rw [Bool.or_eq_true, hS k, decide_eq_true_eq]
                      constructor
                      · rintro (⟨z, hz1, hz2⟩ | hz1)
                        · exact ⟨z, List.mem_append_left _ hz1, hz2⟩
                        · exact ⟨x', by simp, hz1⟩
                      · rintro ⟨z, hz1, hz2⟩
                        rcases List.mem_append.mp hz1 with h1 | h1
                        · exact .inl ⟨z, h1, hz2⟩
                        · rw [List.mem_singleton] at h1; subst h1; exact .inr hz2
                  · rw [if_neg hz] at run; cases run
      · have ei : i = ds.length := by omega
        subst ei
        rw [List.drop_length] at run
        unfold lcF at run
        have run' : acc.map D.str = ys.map D.str := by injection run
        have ea : acc = ys := by
          have := congrArg strsD run'
          rw [strsD_map, strsD_map] at this
          exact Option.some.inj this
        subst ea
        obtain ⟨x2, ⟨S, n, hl2, hn, hS⟩, hg2⟩ := gr
        refine .inl ⟨io.stop G2 H2 x2.g er2.sub, LD, S, n, rfl, hl2, by omega, fun k hk => ?_, fun zs p2 h1 h2 h3 hp2 => ?_⟩
        · obtain ⟨x, _, e⟩ := (hS k).mp hk; exact ⟨x, e⟩
        · have e : zs = DS.sortU acc := DS.sortU_of h1 fun x => by
            rw [h2 x, hS]
            exact ⟨fun ⟨y, hy, e⟩ => by cases e; exact hy, fun h => ⟨x, h, rfl⟩⟩
          subst e
          have y1 : Ext G H G2 H2 := by
            refine ⟨x1.g.trans x2.g, fun a o k => ?_, er2.sub, fun a k n => ?_⟩
            · have ha : a ≠ LD := fun ha => by subst ha; have := x1.h a o k; rw [hD] at this; cases this
              have := x2.h a o (by rw [upd_ne ha]; exact x1.h a o k)
              rw [upd_ne ha] at this; exact this
            · by_cases ha : a = LD
              · rw [ha]; exact hg2
              · refine x2.n a (x1.n a k n) ?_
                obtain ⟨o, e, z⟩ := n.mono x1.h
                exact ⟨o, by rw [upd_ne ha]; exact e, z⟩
          have y2 := y1.trans (Ext.lay (o := .lst ((DS.sortU acc).map V.str)) y1.s hp2)
          exact q (.ref p2) _ _ y2 ⟨p2, rfl, ⟨_, upd_same, Reps.strs _⟩, y1.s.none hp2, (er.zh.trans y1.h).none hp2, fun _ => y1.h.none hp2⟩
theorem de_sortSc {elt tg iter : Expr} {ifs : List Expr} {scope : Scope} {own : List (Str × Nat)} {p pos pos2 : Pos} {it : Env → Rz (List D)} {us vs : List Nat} {pp : D → Env → Rz Env} {t : Env → Rz Bool} {e : Env → Rz EV} (hm : X.mg "sorted" = none) (hN : X.N.Nodup) (hi : DI X C W tg iter it) (ok : BlkOk X.N X.env.scope scope own) (hvs : vs = own.map (·.2))
    (hu : ∀ i ∈ us, i ∈ vs)
    (hg : ∀ (s : Shared) (H : Hp) (L : Addr) (cl : List (Str × Addr)) (fp : List Addr), DG (X.blk s H scope (compEnvC scope cl L X.env) fp) C tg us pp) (ht : ∀ (s : Shared) (H : Hp) (L : Addr) (cl : List (Str × Addr)) (fp : List Addr), DTs (X.blk s H scope (compEnvC scope cl L X.env) fp) C W0 ifs t)
    (he : ∀ (s : Shared) (H : Hp) (L : Addr) (cl : List (Str × Addr)) (fp : List Addr), DE (X.blk s H scope (compEnvC scope cl L X.env) fp) C W0 elt e) (hc : X.calm = true := by rfl) (hs : ∀ x, foldedSetIterable iter X.env x = pure x := by intro _; rfl) (hgl : Gl X "sorted" := by rfl)
    (h1 : starEach [.SetComp elt [⟨tg, iter, ifs, 0⟩] scope pos2] X.env = [(false, eval (.SetComp elt [⟨tg, iter, ifs, 0⟩] scope pos2) X.env)] := by rfl) :
    DE X C W (.Call (.Name "sorted" p) [.SetComp elt [⟨tg, iter, ifs, 0⟩] scope pos2] [] pos) (mSortSc it pp t e vs) := by
  subst hvs
  exact ⟨PE.imp (pe_callB (DS.cr_sortW hc) hgl hm (by rfl) (pa_cons (DS.pe_sw hc hN hi.pi ok (fun s H L cl fp => (hg s H L cl fp).pg) (fun s H L cl fp => (ht s H L cl fp).pts) (fun s H L cl fp => (he s H L cl fp).pe) hs) pa_nil h1) (by decide) (by decide) h1 (by rfl)) fun σ H Q h => sc_go hu h⟩
end
end DL
namespace DL
open PySem PySem.Spec PyProof.Rows L2
section
variable {X : Cx} {C : CT} {W : WX}
theorem sw_trueD {k v : Expr} {gs : List Comprehension} {scope : Scope} {pos py : Pos} {y : Str} {l : Nat} {env : PySem.Env} (hk : env.scope.kind = .function) (hy : env.scope.names.lookup y = some .local) (hl : (py.line == pos.line) = true)
    (ha : (scope.names.any fun (n, k) => n == y && (k == .local || k == .cell)) = false) : swapsWith (.DictComp k v gs scope pos) (some (.Name y py)) l env = pure true := by
  have h1 : env.blockKind = .function := by unfold Env.blockKind; rw [hk]; rfl
  have h2 : env.kindOf y = some .local := hy
  simp only [swapsWith, h1, h2, ha, Expr.pos, hl]
  rfl
theorem ps_setDc {i : Nat} {y : Str} {py : Pos} {kx vx tg iter : Expr} {ifs : List Expr} {scope : Scope} {own : List (Str × Nat)} {pos spos : Pos} {wi : TI} {g : TG} {tt : TT} {tk tv : TE} (calm : X.calm = true) (nd : X.N.Nodup) (hy : X.N[i]? = some y) (hyl : X.env.scope.names.lookup y = some .local)
    (sw : swapsWith (.DictComp kx vx [⟨tg, iter, ifs, 0⟩] scope pos) (some (.Name y py)) spos.line X.env = pure true) (pi : PI X tg iter wi) (ok : BlkOk X.N X.env.scope scope own)
    (pg : DS.InBlk X scope fun Y => PG Y tg g) (pt : DS.InBlk X scope fun Y => PTs Y ifs tt) (pk : DS.InBlk X scope fun Y => PE Y kx tk) (pv : DS.InBlk X scope fun Y => PE Y vx tv) (fold : ∀ x, foldedSetIterable iter X.env x = pure x := by intro _; rfl) :
    PS X (.Assign [.Name y py] (.DictComp kx vx [⟨tg, iter, ifs, 0⟩] scope pos) spos) (tAsg (tDc wi g tt tk tv (own.map (·.2))) (gName i)) := by
  refine ⟨fun pins s σ H D I h => ?_⟩
  rw [exec_Assign_Name_used _ _ _ _ sw]
  refine wpAny_bind (wpAny_standAt (wpAny_bind ?_))
  show wpAny _ X.A (do let _ ← comprehension (.DictComp kx vx [⟨tg, iter, ifs, 0⟩] scope pos) scope X.env (firstIterPos [⟨tg, iter, ifs, 0⟩] pos) newDict false (eval iter X.env) (some (assign (.Name y py) X.env))) _ _ s
  replace h : tDc wi g tt tk tv (own.map (·.2)) σ H (fun x H1 => gName i x σ H1 D.nx) := h
  refine wpAny_bind (thn (dc_core (Qf := fun _ z => SP X pins D .next z) calm nd I pi ok pg pt pk pv fold h fun L fr z m H1 J q hn f => ?_) fun _ z hq => wpAny_pure (wpAny_pure hq))
  show wpAny _ _ (assign (.Name y py) X.env (.ref L)) _ _ _
  refine wpAny_assign_Name (store_ok2 (v := V.ref L) J nd hy (.inl hyl) rfl (fun z2 J2 ⟨a, sb, ha⟩ => ⟨m, hn.sameBut sb ?_, fun h3 sb3 => ?_⟩) (.inr hyl))
  · exact ha.elim (fun e => by rw [e]; exact f.2.1) fun e z => f.2.2.2.2.1 y a e z.symm
  · exact ⟨_, H1, J2.turned (t' := z2.toks) (fun b o hb e => (sb3.2 b hb).trans e) f.1 f.2.1 f.2.2.2.1 f.2.2.2.2.1 f.2.2.2.2.2, q⟩
theorem ds_setDcO {i : Nat} {y : Str} {py : Pos} {kx vx tg iter : Expr} {ifs : List Expr} {scope : Scope} {own : List (Str × Nat)} {pos spos : Pos} {it : Env → Rz (List D)} {us vs : List Nat} {p : D → Env → Rz Env} {t : Env → Rz Bool} {k v : Env → Rz EV} (hN : X.N.Nodup)
    (hsw : swapsWith (.DictComp kx vx [⟨tg, iter, ifs, 0⟩] scope pos) (some (.Name y py)) spos.line X.env = pure true) (hi : DI X C W tg iter it) (ok : BlkOk X.N X.env.scope scope own) (hvs : vs = own.map (·.2)) (hu : ∀ i ∈ us, i ∈ vs)
    (hg : ∀ (s : Shared) (H : Hp) (L : Addr) (cl : List (Str × Addr)) (fp : List Addr), DG (X.blk s H scope (compEnvC scope cl L X.env) fp) C tg us p) (ht : ∀ (s : Shared) (H : Hp) (L : Addr) (cl : List (Str × Addr)) (fp : List Addr), DTs (X.blk s H scope (compEnvC scope cl L X.env) fp) C W0 ifs t)
    (hk : ∀ (s : Shared) (H : Hp) (L : Addr) (cl : List (Str × Addr)) (fp : List Addr), DE (X.blk s H scope (compEnvC scope cl L X.env) fp) C W0 kx k) (he : ∀ (s : Shared) (H : Hp) (L : Addr) (cl : List (Str × Addr)) (fp : List Addr), DE (X.blk s H scope (compEnvC scope cl L X.env) fp) C W0 vx v)
    (hy : X.N[i]? = some y := by rfl) (hyl : X.env.scope.names.lookup y = some .local := by rfl) (hc : X.calm = true := by rfl) (hs : ∀ x, foldedSetIterable iter X.env x = pure x := by intro _; rfl) :
    DS X C W (.Assign [.Name y py] (.DictComp kx vx [⟨tg, iter, ifs, 0⟩] scope pos) spos) (mSetO i (mDc it p t k v vs)) := by
  subst hvs
  exact ⟨PS.imp (ps_setDc hc hN hy hyl hsw hi.pi ok (fun s H L cl fp => (hg s H L cl fp).pg) (fun s H L cl fp => (ht s H L cl fp).pts) (fun s H L cl fp => (hk s H L cl fp).pe) (fun s H L cl fp => (he s H L cl fp).pe) hs) fun D σ H h => dc_go hu (onE_go h fun Z G1 H1 env v a er z s va q fr => by
    unfold stO at q
    split at q
    · rename_i w
      obtain ⟨p, rfl, h1, h2, h3, h4⟩ := va
      exact q _ H1 G1 .refl (er.setO h1 h2 h3 fun j x v _ e1 e2 => fr p (h4 rfl) j x v e1 e2)
    · exact q.elim)⟩

def enumD : Nat → List D → List D
  | _, [] => []
  | n, d :: r => .tup [.int n, d] :: enumD (n + 1) r
theorem enumD_len : ∀ (n : Nat) (ds : List D), (enumD n ds).length = ds.length
  | _, [] => rfl
  | n, _ :: r => congrArg Nat.succ (enumD_len (n + 1) r)
theorem enumD_get : ∀ (n : Nat) (ds : List D) (i : Nat) (d : D), ds[i]? = some d → (enumD n ds)[i]? = some (.tup [.int ((n + i : Nat) : Int), d])
  | _, [], _, _, e => by simp at e
  | n, x :: r, 0, d, e => by simp at e; subst e; simp [enumD]
  | n, x :: r, i + 1, d, e => by
    have := enumD_get (n + 1) r i d (by simpa using e)
    rw [enumD, List.getElem?_cons_succ, this]
    congr 4
    omega
def mEnum (m : Env → Rz (List EV)) : Env → Rz (List D) := fun env => m env >>= fun xs => match xs with
  | [.fz (.lst ds)] => .ok (enumD 0 ds)
  | _ => .stuck
theorem ite_ok {K : KC} {a : Addr} {vs : List V} {ds : List D} {G : Hp} (sq : SqL K.K G a vs) (r : Reps K G vs ds) : IterOk K (Ite K.K a) G (enumD 0 ds) where
  go := fun i G2 H2 l a' b => by
    rw [enumD_len] at l
    obtain ⟨d, hd⟩ : ∃ d, ds[i]? = some d := ⟨_, List.getElem?_eq_getElem l⟩
    obtain ⟨v, hv, _⟩ := r.get hd
    exact ⟨vs, v, (a'.trans b).sqL sq, hv⟩
  stop := fun G2 H2 a' b => ⟨vs, (a'.trans b).sqL sq, by rw [enumD_len, r.length]; exact Nat.le_refl _⟩
  yld := fun i x G2 H2 H3 l a' b y => by
    rw [enumD_len] at l
    obtain ⟨T, v, rfl, hT, rfl, hx⟩ := y
    obtain ⟨d, hd⟩ : ∃ d, ds[i]? = some d := ⟨_, List.getElem?_eq_getElem l⟩
    obtain ⟨v', hv, rv⟩ := r.get hd
    have := hx vs ((a'.trans b).sqL sq)
    rw [hv] at this; cases this
    have sT : Sub G2 (upd G2 T (.tup [.int ((i : Nat) : Int), v])) := .upd (b.none hT)
    exact ⟨_, upd G2 T (.tup [.int ((i : Nat) : Int), v]), enumD_get 0 ds i d hd, .lay2 b hT, .tup (.of upd_same) (.cons (by rw [Nat.zero_add]; exact .int _) (.cons (rv.mono (a'.trans sT)) .nil))⟩
theorem di_enum {e : Expr} {m : Env → Rz (List EV)} {p pos tpos : Pos} {elts : List Expr} {kk : Nat} (hm : X.mg "enumerate" = none) (h : DA X C W [e] m) (hg : Gl X "enumerate" := by rfl) (hs : starEach [e] X.env = [(false, eval e X.env)] := by rfl) :
    DI X C W (.Tuple elts kk tpos) (.Call (.Name "enumerate" p) [e] [] pos) (mEnum m) :=
  ⟨PI.imp (pi_enum hg hm h.pa hs) fun σ H R ⟨Z, G, env, er, q⟩ => by
    unfold mEnum at q
    refine ⟨Z, G, env, er, ?_⟩
    cases ha : m env with
    | stuck => rw [ha] at q; exact q.elim
    | exc e => rw [ha] at q; exact q
    | ok xs =>
      rw [ha] at q
      simp only [Rz.ok_bind] at q
      intro vs G1 H1 x1 va
      split at q
      · rename_i ds' heq
        split at heq
        · rename_i ds
          cases heq
          obtain ⟨v, rfl, k⟩ := evs1 va
          have k' : Rep (kc X C) G1 v (.lst ds) := k
          cases k' with
          | lst e r => exact ⟨_, _, rfl, .of (x1.s _ _ e), q _ G1 H1 x1 (ite_ok (.of e) r)⟩
        · cases heq
      · rename_i e heq
        split at heq <;> cases heq
      · exact q.elim⟩

def mAugI (i : Nat) (m : Env → Rz EV) : Env → Out := fun env => match env.getD i .no with
  | .val (.int a) => onE m (fun b env => match b with
    | .fz (.int j) => .nx (env.set i (.val (.int (a + j))))
    | _ => .stuck) env
  | _ => .stuck
theorem ds_augI (i : Nat) {x : Str} {e : Expr} {m : Env → Rz EV} {xp pos : Pos} (h : DE X C W e m) (hN : X.N.Nodup) (hi : X.N[i]? = some x := by rfl) (hx : Loc X.env.scope x := by first | exact Or.inl rfl | exact Or.inr rfl) (hf : X.fn x = true ∨ X.env.scope.names.lookup x = some .local := by first | exact .inl rfl | exact .inr rfl) :
    DS X C W (.AugAssign (.Name x xp) .Add e pos) (mAugI i m) :=
  ⟨PS.imp (ps_aug hN hi hx h.pe ip_add hf) fun D σ H ⟨Z, G, env, er, q⟩ => by
    unfold mAugI at q
    split at q
    · rename_i a hw
      obtain ⟨v, h1, u, rfl, r⟩ := er.at' i _ (getD_some hw (by simp))
      have hu := rep_int r
      subst hu
      refine ⟨_, h1, Z, G, env, er, ?_⟩
      unfold onE at q
      cases hm : m env with
      | stuck => rw [hm] at q; exact q.elim
      | exc e => rw [hm] at q; exact fun cls d G' H' x k => q σ H' G' cls d x.g (er.ext x) k
      | ok b =>
        rw [hm] at q
        intro v G1 H1 x1 vb
        dsimp only at q
        split at q
        · rename_i j
          have hv : v = .int j := rep_int vb
          subst hv
          exact ⟨a, j, rfl, rfl, q _ H1 G1 x1.g ((er.ext x1).setV (.int _))⟩
        · exact q.elim
    · exact q.elim⟩

def mStar (a : Env → Rz EV) (r : Env → Rz (List EV)) : Env → Rz (List EV) := fun env => a env >>= fun x => orStuck (seqD x) >>= fun ds => r env >>= fun ys => .ok (ds.map .fz ++ ys)
theorem evs_fz {K : KC} {Z : Ent} {Hs G H : Hp} : ∀ {vs us : List V} {ds : List D} {es : List EV}, Reps K G vs ds → EVs K Z Hs G H us es → EVs K Z Hs G H (vs ++ us) (ds.map .fz ++ es)
  | _, _, _, _, .nil, h => h
  | _, _, _, _, .cons a b, h => .cons a (evs_fz b h)
theorem da_star {e : Expr} {es : List Expr} {m : Env → Rz EV} {r : Env → Rz (List EV)} {p : Pos} (h : DE X C W e m) (hr : DA X C W es r) (hs : starEach (.Starred e p :: es) X.env = (true, eval e X.env) :: starEach es X.env := by rfl) : DA X C W (.Starred e p :: es) (mStar m r) :=
  ⟨PA.imp (StX.pa_star h.pe hr.pa hs) fun σ H Q ⟨Z, G, env, er, q⟩ => by
    unfold mStar at q
    refine ⟨Z, G, env, er, ?_⟩
    cases ha : m env with
    | stuck => rw [ha] at q; exact q.elim
    | exc e => rw [ha] at q; exact q
    | ok a =>
      rw [ha] at q
      simp only [Rz.ok_bind] at q
      intro v G1 H1 x1 va
      cases hd : seqD a with
      | none => rw [hd] at q; exact q.elim
      | some ds =>
        rw [hd] at q
        simp only [orStuck_some, Rz.ok_bind] at q
        obtain ⟨p, us, e, sq, rs⟩ := seq_of x1.s va hd
        refine ⟨p, us, e, sq.elim .inr fun z => .inl z.2, Z, G1, env, er.ext x1, ?_⟩
        cases hb : r env with
        | stuck => rw [hb] at q; exact q.elim
        | exc e => rw [hb] at q; exact fun cls d G' H' x2 => q cls d G' H' (x1.trans x2)
        | ok ys =>
          rw [hb] at q
          exact fun ws G2 H2 x2 vb => q _ G2 H2 (x1.trans x2) (evs_fz (rs.mono x2.g) (vb.start x1.h))⟩

def mItemsD (m : Env → Rz EV) : Env → Rz (List D) := fun env => m env >>= fun a => match a with
  | .fz (.dct false true kvs) => .ok (kvs.map fun kv => .tup [kv.1, kv.2])
  | _ => .stuck
theorem iti_ok {K : KC} {a : Addr} {o : Obj} {kvs : List (Key × V)} {ds : List (D × D)} {G : Hp} (sq : G a = some (.frz o (.dK kvs))) (r : RepK K G kvs ds) : IterOk K (Iti a o kvs) G (ds.map fun kv => .tup [kv.1, kv.2]) where
  go := fun i G2 H2 l a' b => ⟨b _ _ (a' _ _ sq), by rw [r.len]; simpa using l⟩
  stop := fun G2 H2 a' b => ⟨b _ _ (a' _ _ sq), by rw [r.len, List.length_map]; exact Nat.le_refl _⟩
  yld := fun i x G2 H2 H3 l a' b y => by
    obtain ⟨T, k, v, e, rfl, hT, rfl⟩ := y
    obtain ⟨d, h1, h2⟩ := r.at' e
    have sT : Sub G2 (upd G2 T (.tup [kV k, v])) := .upd (b.none hT)
    exact ⟨_, upd G2 T (.tup [kV k, v]), by rw [List.getElem?_map, h1]; rfl, .lay2 b hT, .tup (.of upd_same) (.cons (rep_kV k) (.cons (h2.mono (a'.trans sT)) .nil))⟩
theorem di_items {e : Expr} {m : Env → Rz EV} {apos cpos tpos : Pos} {elts : List Expr} {kk : Nat} (h : DE X C W e m) (hbase : attributeBase e "items" X.env (eval e X.env) = eval e X.env := by rfl) (hline : (apos.endLine == cpos.line) = true := by rfl) :
    DI X C W (.Tuple elts kk tpos) (.Call (.Attribute e "items" apos) [] [] cpos) (mItemsD m) :=
  ⟨PI.imp (pi_items h.pe hbase hline) fun σ H R ⟨Z, G, env, er, q⟩ => by
    unfold mItemsD at q
    refine ⟨Z, G, env, er, ?_⟩
    cases ha : m env with
    | stuck => rw [ha] at q; exact q.elim
    | exc e => rw [ha] at q; exact q
    | ok a =>
      rw [ha] at q
      simp only [Rz.ok_bind] at q
      intro v G1 H1 x1 va
      split at q
      · rename_i ds' heq
        split at heq
        · rename_i kvs
          cases heq
          have k' : Rep (kc X C) G1 v (.dct false true kvs) := va
          cases k' with
          | dk rd r =>
            obtain ⟨o, e⟩ := rd.lk
            exact ⟨_, o, _, rfl, x1.s _ _ e, q _ G1 H1 x1 (iti_ok e r)⟩
        · cases heq
      · rename_i e heq
        split at heq <;> cases heq
      · exact q.elim⟩
end
end DL
namespace LW
open PySem L2 DL
def b__law_cell : DL.Env → Out :=
    (mSeq (mIfS (mB (m2 (mV 1) (mCall (mCons (mV 0) mNil) gLen) opLt))
      (mRet (mCall (mCons (m2 (mV 0) (mV 1) opIx) mNil) gAbs))
      Out.nx)
    (mRet (mC (.int 1000001002002001005001004003000000000002001000003001002003000000002000000000000003001))))
def F__law_cell : Fn := runB 2 b__law_cell
def l1__law_draws : DL.Env → Out :=
    (mIfS (mAnd (mB (m2 (mV 0) (m2 (mC (.int 10)) (mC (.int 18)) opPow) opGe)) (mB (m2 (mV 3) (mC (.int 0)) opGt)))
        (mSeq (mApp 2 (m2 (mCall (mCons (mV 3) mNil) gInt) (mC (.int 1000)) opMod))
        (mSetF 3 (m2 (mV 3) (mC (.int 1000)) opDiv)))
        (mSeq (mSetF 5 (m2 (mCall (mCons (m2 (m2 (m2 (mV 0) (mC (.int 3)) opAdd) (m2 (mV 4) (mC (.int 5)) opAdd) opMul) (mC (.int 7919)) opMul) mNil) gInt) (mC (.int 100003)) opMod))
        (mApp 2 (m2 (m2 (mCall (mCons (m2 (m2 (m2 (mV 5) (mV 5) opMul) (mV 0) opAdd) (m2 (mC (.int 11)) (mV 4) opMul) opAdd) mNil) gInt) (mC (.int 99991)) opMod) (mC (.int 100)) opDiv))))
def b__law_draws : DL.Env → Out :=
    (mSeq (mSetO 2 (mLst mNil))
    (mSeq (mSetF 3 (mV 0))
    (mSeq (mFor (mRng1 (mCons (mV 1) mNil)) (pName 4)
      l1__law_draws)
    (mRet (mV 2)))))
def F__law_draws : Fn := runB 6 b__law_draws
def e1_is_word : DL.Env → Rz EV :=
    (m2 (mV 1) (m2 (m2 (mC (.str "abcdefghijklmnopqrstuvwxyz")) (mC (.str "ABCDEFGHIJKLMNOPQRSTUVWXYZ")) opAdd) (mC (.str "0123456789")) opAdd) opIn)
def b_is_word : DL.Env → Out :=
    (mRet (mAndV (mChn (mC (.int 1)) (mCall (mCons (mV 0) mNil) gLen) (mC (.int 6)) opLe opLe) (mCall (mCons (mLc (mItems (mV 0)) (pName 1) mYes e1_is_word [1]) mNil) gAll)))
def F_is_word : Fn := runB 2 b_is_word
def b_is_sign : DL.Env → Out :=
    (mRet (mAndV (mFn F_is_word (mCons (mV 0) mNil) 1) (m2 (m2 (mV 0) (mC (.int 0)) opIx) (mC (.str "abcdefghijklmnopqrstuvwxyz")) opIn)))
def F_is_sign : Fn := runB 1 b_is_sign
def b_is_name : DL.Env → Out :=
    (mRet (mAndV (mFn F_is_word (mCons (mV 0) mNil) 1) (m2 (m2 (mV 0) (mC (.int 0)) opIx) (mC (.str "ABCDEFGHIJKLMNOPQRSTUVWXYZ")) opIn)))
def F_is_name : Fn := runB 1 b_is_name
def e1__law_same (rec : Fn) : DL.Env → Rz EV :=
    (mFn rec (mCons (m2 (mV 0) (mV 2) opIx) (mCons (m2 (mV 1) (mV 2) opIx) mNil)) 2)
def b__law_same (rec : Fn) : DL.Env → Out :=
    (mSeq (mIfS (mB (m2 (mV 1) (mC .non) opIs))
      (mRet (m2 (mV 0) (mC .non) opIs))
      Out.nx)
    (mSeq (mIfS (mB (mCall (mCons (mV 1) (mCons (mC (.ty "bool")) mNil)) gIsi))
      (mRet (mAndV (mCall (mCons (mV 0) (mCons (mC (.ty "bool")) mNil)) gIsi) (m2 (mV 0) (mV 1) opEq)))
      Out.nx)
    (mSeq (mIfS (mB (mCall (mCons (mV 1) (mCons (mC (.ty "int")) mNil)) gIsi))
      (mRet (mAndV (mCall (mCons (mV 0) (mCons (mC (.ty "int")) mNil)) gIsi) (mAndV (mNotV (mCall (mCons (mV 0) (mCons (mC (.ty "bool")) mNil)) gIsi)) (m2 (mV 0) (mV 1) opEq))))
      Out.nx)
    (mSeq (mIfS (mB (mCall (mCons (mV 1) (mCons (mC (.ty "str")) mNil)) gIsi))
      (mRet (mAndV (mCall (mCons (mV 0) (mCons (mC (.ty "str")) mNil)) gIsi) (m2 (mV 0) (mV 1) opEq)))
      Out.nx)
    (mSeq (mIfS (mOr (mAnd (mB (mCall (mCons (mV 1) (mCons (mC (.ty "tuple")) mNil)) gIsi)) (mNot (mB (mCall (mCons (mV 0) (mCons (mC (.ty "tuple")) mNil)) gIsi)))) (mAnd (mB (mCall (mCons (mV 1) (mCons (mC (.ty "list")) mNil)) gIsi)) (mNot (mB (mCall (mCons (mV 0) (mCons (mC (.ty "list")) mNil)) gIsi)))))
      (mRet (mC (.bl false)))
      Out.nx)
    (mRet (mAndV (m2 (mCall (mCons (mV 0) mNil) gLen) (mCall (mCons (mV 1) mNil) gLen) opEq) (mCall (mCons (mLc (mRng1 (mCons (mCall (mCons (mV 1) mNil) gLen) mNil)) (pName 2) mYes (e1__law_same rec) [2]) mNil) gAll))))))))
def F__law_same : Nat → Fn
  | 0 => runB 3 fun _ => .stuck
  | n + 1 => runB 3 (b__law_same (F__law_same n))
def w1__law_sorted : DL.Env → Rz Bool :=
    (mAnd (mB (m2 (mV 3) (mCall (mCons (mV 1) mNil) gLen) opLt)) (mB (m2 (m2 (mV 1) (mV 3) opIx) (mV 2) opLt)))
def l1__law_sorted : DL.Env → Out :=
    (mSetF 3 (m2 (mV 3) (mC (.int 1)) opAdd))
def l2__law_sorted : DL.Env → Out :=
    (mSeq (mSetF 3 (mC (.int 0)))
      (mSeq (mWhile w1__law_sorted
        l1__law_sorted)
      (mIns 1 (mCons (mV 3) (mCons (mV 2) mNil)))))
def b__law_sorted : DL.Env → Out :=
    (mSeq (mSetO 1 (mLst mNil))
    (mSeq (mFor (mItems (mV 0)) (pName 2)
      l2__law_sorted)
    (mRet (mV 1))))
def F__law_sorted : Fn := runB 4 b__law_sorted
def l1_Signs_init : DL.Env → Out :=
    (mIfS (mAnd (mB (m2 (mV 2) (mC (.str "$")) opNe)) (mNot (mB (mFn F_is_sign (mCons (mV 2) mNil) 1))))
        (mRaise "SymbolError" ["symbol"] (mCons (mV 2) mNil))
        Out.nx)
def b_Signs_init : DL.Env → Out :=
    (mSeq (mFor (mItems (mV 1)) (pName 2)
      l1_Signs_init)
    (mSetFld 0 ["Signs"] "words" (mCall (mCons (mSortSet (mV 1)) mNil) gTuple)))
def I_Signs_init : IFn := runI 3 "Signs" b_Signs_init
def b_Signs_of : DL.Env → Out :=
    (mRet (mMakeL 0 "Signs" 1 I_Signs_init (mCons (mV 1) mNil)))
def F_Signs_of : Fn := runB 2 b_Signs_of
def b_order : DL.Env → Out :=
    (mRet (mTup (mCons (mCall (mCons (mV 0) mNil) gLen) (mCons (mCall (mCons (mV 0) mNil) gTuple) mNil))))
def F_order : Fn := runB 1 b_order
def e1_is_rule : DL.Env → Rz EV :=
    (mOrV (mFn F_is_name (mCons (mV 3) mNil) 1) (mFn F_is_sign (mCons (mV 3) mNil) 1))
def b_is_rule : DL.Env → Out :=
    (mRet (mAndV (mFn F_is_name (mCons (mV 0) mNil) 1) (mAndV (m2 (mCall (mCons (mV 1) mNil) gLen) (mV 2) opLe) (mCall (mCons (mLc (mItems (mV 1)) (pName 3) mYes e1_is_rule [3]) mNil) gAll))))
def F_is_rule : Fn := runB 4 b_is_rule
def b_parse_rule : DL.Env → Out :=
    (mSeq (mSetF 2 (mM1 (mV 0) (mC (.str " ")) gSplit))
    (mSeq (mIfS (mOr (mB (m2 (mCall (mCons (mV 2) mNil) gLen) (mC (.int 2)) opLt)) (mOr (mB (m2 (m2 (mV 2) (mC (.int 1)) opIx) (mC (.str "->")) opNe)) (mNot (mB (mFn F_is_rule (mCons (m2 (mV 2) (mC (.int 0)) opIx) (mCons (mSl (mV 2) (some (mC (.int 2))) none) (mCons (mV 1) mNil))) 3)))))
      (mRet (mC .non))
      Out.nx)
    (mRet (mTup (mCons (m2 (mV 2) (mC (.int 0)) opIx) (mCons (mCall (mCons (mSl (mV 2) (some (mC (.int 2))) none) mNil) gTuple) mNil))))))
def F_parse_rule : Fn := runB 3 b_parse_rule
def e1_least_words : DL.Env → Rz EV :=
    (mOrV (mFn F_is_sign (mCons (mV 7) mNil) 1) (m2 (mV 7) (mV 1) opIn))
def l1_least_words : DL.Env → Out :=
    (mSetF 5 (m2 (mV 5) (mIf (mB (mFn F_is_sign (mCons (mV 6) mNil) 1)) (mTup (mCons (mV 6) mNil)) (m2 (mV 1) (mV 6) opIxK)) opAdd))
def l2_least_words : DL.Env → Out :=
    (mSeq (mIfS (mNot (mB (mCall (mCons (mLc (mItems (mV 4)) (pName 7) mYes e1_least_words [7]) mNil) gAll)))
          Out.ct
          Out.nx)
        (mSeq (mSetF 5 (mTup mNil))
        (mSeq (mFor (mItems (mV 4)) (pName 6)
          l1_least_words)
        (mIfS (mOr (mB (m2 (mV 3) (mV 1) opNi)) (mB (m2 (mFn F_order (mCons (mV 5) mNil) 1) (mFn F_order (mCons (m2 (mV 1) (mV 3) opIxK) mNil) 1) opLt)))
          (mSeq (mPut 1 (mV 3) (mV 5))
          (mSetF 2 (mC (.bl true))))
          Out.nx))))
def w1_least_words : DL.Env → Rz Bool :=
    (mB (mV 2))
def l3_least_words : DL.Env → Out :=
    (mSeq (mSetF 2 (mC (.bl false)))
      (mFor (mItems (mV 0)) (pTup (pCons (pName 3) (pCons (pName 4) pNil)) 2)
        l2_least_words))
def b_least_words : DL.Env → Out :=
    (mSeq (mSetO 1 (mNewD false))
    (mSeq (mSetF 2 (mC (.bl true)))
    (mSeq (mWhile w1_least_words
      l3_least_words)
    (mLock 1 (mRet (mV 1))))))
def F_least_words : Fn := runB 8 b_least_words
def l1_reached_names : DL.Env → Out :=
    (mIfS (mAnd (mB (m2 (mV 4) (m2 (mV 2) (mV 3) opIx) opEq)) (mAnd (mB (mFn F_is_name (mCons (mV 6) mNil) 1)) (mB (m2 (mV 6) (mV 2) opNi))))
            (mApp 2 (mV 6))
            Out.nx)
def l2_reached_names : DL.Env → Out :=
    (mFor (mItems (mV 5)) (pName 6)
          l1_reached_names)
def w1_reached_names : DL.Env → Rz Bool :=
    (mB (m2 (mV 3) (mCall (mCons (mV 2) mNil) gLen) opLt))
def l3_reached_names : DL.Env → Out :=
    (mSeq (mFor (mItems (mV 0)) (pTup (pCons (pName 4) (pCons (pName 5) pNil)) 2)
        l2_reached_names)
      (mAugI 3 (mC (.int 1))))
def b_reached_names : DL.Env → Out :=
    (mSeq (mSetO 2 (mLst (mCons (mV 1) mNil)))
    (mSeq (mSetF 3 (mC (.int 0)))
    (mSeq (mWhile w1_reached_names
      l3_reached_names)
    (mRet (mV 2)))))
def F_reached_names : Fn := runB 7 b_reached_names
def b__law_name : DL.Env → Out :=
    (mRet (mAndV (m2 (mC (.str "A")) (mSl (mV 0) none (some (mC (.int 1)))) opLe) (m2 (mSl (mV 0) none (some (mC (.int 1)))) (mC (.str "Z")) opLe)))
def F__law_name : Fn := runB 1 b__law_name
def b__law_less : DL.Env → Out :=
    (mRet (mOrV (m2 (mCall (mCons (mV 0) mNil) gLen) (mCall (mCons (mV 1) mNil) gLen) opLt) (mAndV (m2 (mCall (mCons (mV 0) mNil) gLen) (mCall (mCons (mV 1) mNil) gLen) opEq) (m2 (mV 0) (mV 1) opLt))))
def F__law_less : Fn := runB 2 b__law_less
def l1__law_least : DL.Env → Out :=
    (mIfS (mAnd (mB (m2 (mV 4) (mC .non) opIsn)) (mB (mFn F__law_name (mCons (mV 5) mNil) 1)))
            (mSetF 4 (mIf (mB (m2 (mV 5) (mV 1) opIn)) (m2 (mV 4) (m2 (mV 1) (mV 5) opIxK) opAdd) (mC .non)))
            (mIfS (mB (m2 (mV 4) (mC .non) opIsn))
              (mSetF 4 (m2 (mV 4) (mLst (mCons (mV 5) mNil)) opAdd))
              Out.nx))
def l2__law_least : DL.Env → Out :=
    (mSeq (mSetF 4 (mLst mNil))
        (mSeq (mFor (mItems (m2 (mV 3) (mC (.int 1)) opIx)) (pName 5)
          l1__law_least)
        (mIfS (mAnd (mB (m2 (mV 4) (mC .non) opIsn)) (mOr (mB (m2 (m2 (mV 3) (mC (.int 0)) opIx) (mV 1) opNi)) (mB (mFn F__law_less (mCons (mV 4) (mCons (m2 (mV 1) (m2 (mV 3) (mC (.int 0)) opIx) opIxK) mNil)) 2))))
          (mPut 1 (m2 (mV 3) (mC (.int 0)) opIx) (mV 4))
          Out.nx)))
def l3__law_least : DL.Env → Out :=
    (mFor (mItems (mV 0)) (pName 3)
        l2__law_least)
def b__law_least : DL.Env → Out :=
    (mSeq (mSetO 1 (mNewD false))
    (mSeq (mFor (mRng1 (mCons (m2 (mCall (mCons (mV 0) mNil) gLen) (mC (.int 1)) opAdd) mNil)) (pName 2)
      l3__law_least)
    (mLock 1 (mRet (mV 1)))))
def F__law_least : Fn := runB 6 b__law_least
def e1__law_lines : DL.Env → Rz EV :=
    (mM1 (mC (.str " ")) (m2 (mLst (mCons (m2 (mV 1) (mC (.int 0)) opIx) (mCons (mC (.str "->")) mNil))) (m2 (mV 1) (mC (.int 1)) opIx) opAdd) gJoin)
def b__law_lines : DL.Env → Out :=
    (mRet (mM1 (mC (.str "\n")) (mLc (mItems (mV 0)) (pName 1) mYes e1__law_lines [1]) gJoin))
def F__law_lines : Fn := runB 2 b__law_lines
def l1__law_reached : DL.Env → Out :=
    (mIfS (mAnd (mB (m2 (m2 (mV 3) (mC (.int 0)) opIx) (m2 (mV 1) (mV 2) opIx) opEq)) (mAnd (mB (mFn F__law_name (mCons (mV 4) mNil) 1)) (mB (m2 (mV 4) (mV 1) opNi))))
            (mApp 1 (mV 4))
            Out.nx)
def l2__law_reached : DL.Env → Out :=
    (mFor (mItems (m2 (mV 3) (mC (.int 1)) opIx)) (pName 4)
          l1__law_reached)
def w1__law_reached : DL.Env → Rz Bool :=
    (mB (m2 (mV 2) (mCall (mCons (mV 1) mNil) gLen) opLt))
def l3__law_reached : DL.Env → Out :=
    (mSeq (mFor (mItems (mV 0)) (pName 3)
        l2__law_reached)
      (mSetF 2 (m2 (mV 2) (mC (.int 1)) opAdd)))
def b__law_reached : DL.Env → Out :=
    (mSeq (mSetO 1 (mLst (mCons (m2 (m2 (mV 0) (mC (.int 0)) opIx) (mC (.int 0)) opIx) mNil)))
    (mSeq (mSetF 2 (mC (.int 0)))
    (mSeq (mWhile w1__law_reached
      l3__law_reached)
    (mRet (mV 1)))))
def F__law_reached : Fn := runB 5 b__law_reached
def l1_leading : DL.Env → Out :=
    (mSeq (mIfS (mB (mFn F_is_sign (mCons (mV 4) mNil) 1))
        (mRet (m2 (mV 3) (mLst (mCons (mV 4) mNil)) opAdd))
        Out.nx)
      (mSeq (mSetO 3 (m2 (mV 3) (m2 (mV 1) (mV 4) opIxK) opAdd))
      (mIfS (mTr (m2 (mV 2) (mV 4) opIxK))
        (mRet (mV 3))
        Out.nx)))
def b_leading : DL.Env → Out :=
    (mSeq (mSetO 3 (mLst mNil))
    (mSeq (mFor (mItems (mV 0)) (pName 4)
      l1_leading)
    (mRet (m2 (mV 3) (mLst (mCons (mC (.str "$")) mNil)) opAdd))))
def F_leading : Fn := runB 5 b_leading
def e1_first_signs : DL.Env → Rz EV :=
    (mV 4)
def e2_first_signs : DL.Env → Rz EV :=
    (mLst mNil)
def l1_first_signs : DL.Env → Out :=
    (mIfS (mAnd (mB (m2 (mV 6) (mC (.str "$")) opNe)) (mB (m2 (mV 6) (m2 (mV 2) (mV 4) opIxK) opNi)))
            (mSeq (mPut 2 (mV 4) (m2 (m2 (mV 2) (mV 4) opIxK) (mLst (mCons (mV 6) mNil)) opAdd))
            (mSetF 3 (mC (.bl true))))
            Out.nx)
def l2_first_signs : DL.Env → Out :=
    (mFor (mItems (mFn F_leading (mCons (mV 5) (mCons (mV 2) (mCons (mV 1) mNil))) 3)) (pName 6)
          l1_first_signs)
def w1_first_signs : DL.Env → Rz Bool :=
    (mB (mV 3))
def l3_first_signs : DL.Env → Out :=
    (mSeq (mSetF 3 (mC (.bl false)))
      (mFor (mItems (mV 0)) (pTup (pCons (pName 4) (pCons (pName 5) pNil)) 2)
        l2_first_signs))
def b_first_signs : DL.Env → Out :=
    (mSeq (mSetO 2 (mDc (mItems (mV 1)) (pName 4) mYes e1_first_signs e2_first_signs [4]))
    (mSeq (mSetF 3 (mC (.bl true)))
    (mSeq (mWhile w1_first_signs
      l3_first_signs)
    (mLock 2 (mRet (mV 2))))))
def F_first_signs : Fn := runB 7 b_first_signs
def l1_Grammar_init : DL.Env → Out :=
    (mIfS (mNot (mB (mFn F_is_rule (mCons (mV 3) (mCons (mV 4) (mCons (mC (.int 4)) mNil))) 3)))
        (mRaise "RuleError" ["line"] (mCons (mV 2) mNil))
        Out.nx)
def e1_Grammar_init : DL.Env → Rz EV :=
    (mTup (mCons (mV 3) (mCons (mCall (mCons (mV 4) mNil) gTuple) mNil)))
def e2_Grammar_init : DL.Env → Rz EV :=
    (mV 3)
def e3_Grammar_init : DL.Env → Rz EV :=
    (mV 11)
def t1_Grammar_init : DL.Env → Rz Bool :=
    (mB (mFn F_is_name (mCons (mV 11) mNil) 1))
def e4_Grammar_init : DL.Env → Rz EV :=
    (mV 11)
def t2_Grammar_init : DL.Env → Rz Bool :=
    (mB (mFn F_is_sign (mCons (mV 11) mNil) 1))
def e5_Grammar_init : DL.Env → Rz EV :=
    (mV 11)
def l2_Grammar_init : DL.Env → Out :=
    (mIfS (mB (m2 (m2 (mV 6) (mV 8) opIx) (m2 (mV 7) (mV 8) opIx) opGt))
        (mRaise "TooLarge" ["what"] (mCons (mV 9) mNil))
        Out.nx)
def l3_Grammar_init : DL.Env → Out :=
    (mIfS (mB (m2 (mV 3) (mFld ["Grammar"] "least" (mV 0)) opNi))
        (mRaise "Barren" ["name"] (mCons (mV 3) mNil))
        Out.nx)
def l4_Grammar_init : DL.Env → Out :=
    (mIfS (mB (m2 (mV 3) (mV 10) opNi))
        (mRaise "Unreached" ["name"] (mCons (mV 3) mNil))
        Out.nx)
def l5_Grammar_init : DL.Env → Out :=
    (mIfS (mB (m2 (mCall (mCons (m2 (mFld ["Grammar"] "least" (mV 0)) (mV 3) opIxK) mNil) gLen) (mC (.int 99)) opGt))
        (mRaise "TooLarge" ["what"] (mCons (mC (.str "words")) mNil))
        Out.nx)
def b_Grammar_init : DL.Env → Out :=
    (mSeq (mIfS (mB (m2 (mCall (mCons (mV 1) mNil) gLen) (mC (.int 0)) opEq))
      (mRaise "RuleError" ["line"] (mCons (mC (.int 0)) mNil))
      Out.nx)
    (mSeq (mFor (mEnum (mCons (mV 1) mNil)) (pTup (pCons (pName 2) (pCons (pTup (pCons (pName 3) (pCons (pName 4) pNil)) 2) pNil)) 2)
      l1_Grammar_init)
    (mSeq (mSetFld 0 ["Grammar"] "rules" (mCall (mCons (mLc (mItems (mV 1)) (pTup (pCons (pName 3) (pCons (pName 4) pNil)) 2) mYes e1_Grammar_init [3, 4]) mNil) gTuple))
    (mSeq (mSetF 5 (m2 (mLc (mItems (mFld ["Grammar"] "rules" (mV 0))) (pTup (pCons (pName 3) (pCons (pName 4) pNil)) 2) mYes e2_Grammar_init [3, 4]) (mLc2 (mItems (mFld ["Grammar"] "rules" (mV 0))) (pTup (pCons (pName 3) (pCons (pName 4) pNil)) 2) mYes (mItems (mV 4)) (pName 11) mYes e3_Grammar_init [3, 4, 11] [11]) opAdd))
    (mSeq (mSetFld 0 ["Grammar"] "names" (mCall (mCons (mSortSc (mItems (mV 5)) (pName 11) t1_Grammar_init e4_Grammar_init [11]) mNil) gTuple))
    (mSeq (mSetFld 0 ["Grammar"] "signs" (mCall (mCons (mSortSc (mItems (mV 5)) (pName 11) t2_Grammar_init e5_Grammar_init [11]) mNil) gTuple))
    (mSeq (mSetFld 0 ["Grammar"] "start" (m2 (m2 (mFld ["Grammar"] "rules" (mV 0)) (mC (.int 0)) opIx) (mC (.int 0)) opIx))
    (mSeq (mSetF 6 (mLst (mCons (mCall (mCons (mFld ["Grammar"] "rules" (mV 0)) mNil) gLen) (mCons (mCall (mCons (mFld ["Grammar"] "names" (mV 0)) mNil) gLen) (mCons (mCall (mCons (mFld ["Grammar"] "signs" (mV 0)) mNil) gLen) mNil)))))
    (mSeq (mSetF 7 (mLst (mCons (mC (.int 12)) (mCons (mC (.int 6)) (mCons (mC (.int 6)) mNil)))))
    (mSeq (mFor (mEnum (mCons (mLst (mCons (mC (.str "rules")) (mCons (mC (.str "names")) (mCons (mC (.str "signs")) mNil)))) mNil)) (pTup (pCons (pName 8) (pCons (pName 9) pNil)) 2)
      l2_Grammar_init)
    (mSeq (mSetFld 0 ["Grammar"] "least" (mFn F_least_words (mCons (mFld ["Grammar"] "rules" (mV 0)) mNil) 1))
    (mSeq (mFor (mItems (mFld ["Grammar"] "names" (mV 0))) (pName 3)
      l3_Grammar_init)
    (mSeq (mSetF 10 (mFn F_reached_names (mCons (mFld ["Grammar"] "rules" (mV 0)) (mCons (mFld ["Grammar"] "start" (mV 0)) mNil)) 2))
    (mSeq (mFor (mItems (mFld ["Grammar"] "names" (mV 0))) (pName 3)
      l4_Grammar_init)
    (mSeq (mFor (mItems (mFld ["Grammar"] "names" (mV 0))) (pName 3)
      l5_Grammar_init)
    (mSetFld 0 ["Grammar"] "firsts" (mFn F_first_signs (mCons (mFld ["Grammar"] "rules" (mV 0)) (mCons (mFld ["Grammar"] "least" (mV 0)) mNil)) 2)))))))))))))))))
def I_Grammar_init : IFn := runI 12 "Grammar" b_Grammar_init
def l1_Grammar_read : DL.Env → Out :=
    (mSeq (mSetF 5 (mFn F_parse_rule (mCons (mV 4) (mCons (mC (.int 4)) mNil)) 2))
      (mSeq (mIfS (mB (m2 (mV 5) (mC .non) opIs))
        (mRaise "RuleError" ["line"] (mCons (mV 3) mNil))
        Out.nx)
      (mApp 2 (mV 5))))
def b_Grammar_read : DL.Env → Out :=
    (mSeq (mSetO 2 (mLst mNil))
    (mSeq (mFor (mEnum (mCons (mM1 (mV 1) (mC (.str "\n")) gSplit) mNil)) (pTup (pCons (pName 3) (pCons (pName 4) pNil)) 2)
      l1_Grammar_read)
    (mFrz 2 (mRet (mMakeL 0 "Grammar" 1 I_Grammar_init (mCons (mV 2) mNil))))))
def F_Grammar_read : Fn := runB 6 b_Grammar_read
end LW
namespace LW
open PySem L2 DL
def cLow : List Nat := [97, 98, 99, 100, 101, 102, 103, 104, 105, 106, 107, 108, 109, 110, 111, 112, 113, 114, 115, 116, 117, 118, 119, 120, 121, 122]
def cUpp : List Nat := [65, 66, 67, 68, 69, 70, 71, 72, 73, 74, 75, 76, 77, 78, 79, 80, 81, 82, 83, 84, 85, 86, 87, 88, 89, 90]
def cDig : List Nat := [48, 49, 50, 51, 52, 53, 54, 55, 56, 57]
theorem s_low : ("abcdefghijklmnopqrstuvwxyz" : Str) = mk cLow := by decide +kernel
theorem s_upp : ("ABCDEFGHIJKLMNOPQRSTUVWXYZ" : Str) = mk cUpp := by decide +kernel
theorem s_dig : ("0123456789" : Str) = mk cDig := by decide +kernel
theorem s_all : ("abcdefghijklmnopqrstuvwxyzABCDEFGHIJKLMNOPQRSTUVWXYZ0123456789" : Str) = mk (cLow ++ cUpp ++ cDig) := by decide +kernel
def isW (l : List Nat) : Bool := decide (1 ≤ l.length) && decide (l.length ≤ 6) && l.all fun c => decide (c ∈ cLow ++ cUpp ++ cDig)
def isX (first : List Nat) (l : List Nat) : Bool := isW l && (match l with
  | c :: _ => decide (c ∈ first)
  | [] => false)
abbrev isSg := isX cLow
abbrev isNm := isX cUpp
theorem add_low : opAdd (.fz (.str "abcdefghijklmnopqrstuvwxyz")) (.fz (.str "ABCDEFGHIJKLMNOPQRSTUVWXYZ")) = .ok (.fz (.str (mk (cLow ++ cUpp)))) := by
  rw [s_low, s_upp, opAdd_str, if_pos (size_big (by decide))]
  rfl
theorem add_dig : opAdd (.fz (.str (mk (cLow ++ cUpp)))) (.fz (.str "0123456789")) = .ok (.fz (.str (mk (cLow ++ cUpp ++ cDig)))) := by
  rw [s_dig, opAdd_str, if_pos (size_big (by decide))]
  rfl
theorem ev_is_word (l : List Nat) (h : l.length ≤ 16777216) : F_is_word [.str (mk l)] = .ok (.fz (.bl (isW l))) := by
  unfold F_is_word runB b_is_word mRet onE mAndV mChn
  simp only [mCall, mCons, mNil, mV, mC, rdSlot, List.map_cons, List.map_nil, List.length_cons, List.length_nil, List.cons_append, List.nil_append, List.getD_cons_zero, Rz.ok_bind, EV.fr_fz, gLen_mk l h, opO_int, asB_bl]
  have e1 : mLc (mItems (mV 0)) (pName 1) mYes e1_is_word [1] (SL.val (.str (mk l)) :: List.replicate (2 - (0 + 1)) SL.no) =
      .ok (.ow true (.lst ((l.map fun c => decide (c ∈ cLow ++ cUpp ++ cDig)).map .bl))) := by
    rw [List.map_map]
    refine mLc_all (en := fun c => .str ⟨#[c]⟩) ?_ (fun c _ => ⟨.fz (.bl (decide (c ∈ cLow ++ cUpp ++ cDig))), ?_, rfl⟩) (size_big h)
    · simp [mItems, mV, rdSlot]
    · simp only [e1_is_word, m2, mV, mC, Rz.ok_bind, add_low, add_dig]
      exact in_sign c _
  by_cases h1 : 1 ≤ l.length
  · have h1' : (1 : Int) ≤ (l.length : Int) := by omega
    simp only [h1', decide_true, if_true, Rz.ok_bind, asB_bl]
    by_cases h2 : l.length ≤ 6
    · have h2' : (l.length : Int) ≤ 6 := by omega
      simp only [h2', decide_true, if_true, e1, Rz.ok_bind, EV.fr_new, OW.d_lst, gAll_map]
      simp [isW, h1, h2, Function.comp_def]
    · have h2' : ¬ (l.length : Int) ≤ 6 := by omega
      simp [h2', isW, h2]
  · have h1' : ¬ (1 : Int) ≤ (l.length : Int) := by omega
    simp [h1', isW, h1]
theorem isW_cons {l : List Nat} (h : isW l = true) : ∃ c r, l = c :: r := by
  cases l with
  | nil => cases h
  | cons c r => exact ⟨c, r, rfl⟩
theorem appF_one {F : Fn} {d r : D} (h : F [d] = .ok (.fz r)) : appF F [.fz d] = .ok (.fz r) := by
  unfold appF
  rw [show [EV.fz d].map EV.d = [d] from rfl, h]
  rfl
theorem appF_two {F : Fn} {d e r : D} (h : F [d, e] = .ok (.fz r)) : appF F [.fz d, .fz e] = .ok (.fz r) := by
  unfold appF
  rw [show [EV.fz d, EV.fz e].map EV.d = [d, e] from rfl, h]
  rfl
theorem ev_is_sign (l : List Nat) (h : l.length ≤ 16777216) : F_is_sign [.str (mk l)] = .ok (.fz (.bl (isSg l))) := by
  unfold F_is_sign runB b_is_sign mRet onE mAndV mFn
  simp only [mCons, mNil, mV, mC, rdSlot, List.map_cons, List.map_nil, List.length_cons, List.length_nil, List.cons_append, List.nil_append, List.getD_cons_zero, Rz.ok_bind, EV.fr_fz, if_true, m2, appF_one (ev_is_word l h), asB_bl]
  by_cases hw : isW l = true
  · obtain ⟨c, r, rfl⟩ := isW_cons hw
    simp only [hw, if_true, ix0_mk c r h, Rz.ok_bind, s_low, in_sign]
    simp [isX, hw]
  · have hw' : isW l = false := by simpa using hw
    simp [hw', isSg, isX]
theorem ev_is_name (l : List Nat) (h : l.length ≤ 16777216) : F_is_name [.str (mk l)] = .ok (.fz (.bl (isNm l))) := by
  unfold F_is_name runB b_is_name mRet onE mAndV mFn
  simp only [mCons, mNil, mV, mC, rdSlot, List.map_cons, List.map_nil, List.length_cons, List.length_nil, List.cons_append, List.nil_append, List.getD_cons_zero, Rz.ok_bind, EV.fr_fz, if_true, m2, appF_one (ev_is_word l h), asB_bl]
  by_cases hw : isW l = true
  · obtain ⟨c, r, rfl⟩ := isW_cons hw
    simp only [hw, if_true, ix0_mk c r h, Rz.ok_bind, s_upp, in_sign]
    simp [isX, hw]
  · have hw' : isW l = false := by simpa using hw
    simp [hw', isNm, isX]

def bigCell : Int := 1000001002002001005001004003000000000002001000003001002003000000002000000000000003001
def cellOf (ns : List Int) (i : Nat) : Int := match ns[i]? with
  | some n => if n < 0 then -n else n
  | none => bigCell
theorem cellOf_nn (ns : List Int) (i : Nat) : 0 ≤ cellOf ns i := by
  unfold cellOf
  split
  · split <;> omega
  · decide
theorem ev_cell (ns : List Int) (i : Nat) : F__law_cell [.scr ns, .int i] = .ok (.fz (.int (cellOf ns i))) := by
  unfold F__law_cell runB b__law_cell mSeq mIfS mRet onE mB
  simp only [mCall, mCons, mNil, mV, mC, m2, rdSlot, List.map_cons, List.map_nil, List.length_cons, List.length_nil, List.cons_append, List.nil_append, List.getD_cons_zero, List.getD_cons_succ, Rz.ok_bind, EV.fr_fz, gLen_scr, opO_int, asB_bl]
  by_cases h : i < ns.length
  · have h' : (i : Int) < (ns.length : Int) := by omega
    have e : ns[i]? = some ns[i] := List.getElem?_eq_getElem h
    simp only [h', decide_true, if_true, ix_scr ns i _ e, Rz.ok_bind, EV.fr_fz]
    simp [absD, cellOf, e]
  · have h' : ¬ (i : Int) < (ns.length : Int) := by omega
    have e : ns[i]? = none := List.getElem?_eq_none (by omega)
    simp [h', cellOf, e, bigCell]
def drawsFrom (cell : Int) : Nat → Nat → Int → List Int
  | 0, _, _ => []
  | n + 1, k, left => if 1000000000000000000 ≤ cell ∧ 0 < left then left % 1000 :: drawsFrom cell n (k + 1) (left / 1000)
    else ((((cell + 3) * ((k : Int) + 5) * 7919 % 100003) * ((cell + 3) * ((k : Int) + 5) * 7919 % 100003) + cell + 11 * (k : Int)) % 99991 / 100) :: drawsFrom cell n (k + 1) left
def draws (cell : Int) (n : Nat) : List Int := drawsFrom cell n 0 cell
theorem drawsFrom_length (cell : Int) : ∀ (n k : Nat) (left : Int), (drawsFrom cell n k left).length = n
  | 0, _, _ => rfl
  | n + 1, k, left => by
    unfold drawsFrom
    split <;> simp [drawsFrom_length cell n]
theorem draws_length (cell : Int) (n : Nat) : (draws cell n).length = n := drawsFrom_length cell n 0 cell
theorem drawsFrom_nn (cell : Int) : ∀ (n k : Nat) (left : Int), ∀ x ∈ drawsFrom cell n k left, 0 ≤ x ∧ x < 1000
  | 0, _, _, x, h => by cases h
  | n + 1, k, left, x, h => by
    unfold drawsFrom at h
    split at h
    · rcases List.mem_cons.mp h with rfl | h
      · exact ⟨Int.emod_nonneg _ (by decide), Int.emod_lt_of_pos _ (by decide)⟩
      · exact drawsFrom_nn cell n _ _ x h
    · rcases List.mem_cons.mp h with rfl | h
      · generalize ((cell + 3) * ((k : Int) + 5) * 7919 % 100003) * ((cell + 3) * ((k : Int) + 5) * 7919 % 100003) + cell + 11 * (k : Int) = z
        have h1 := Int.emod_nonneg z (show (99991 : Int) ≠ 0 by decide)
        have h2 := Int.emod_lt_of_pos z (show (0 : Int) < 99991 by decide)
        omega
      · exact drawsFrom_nn cell n _ _ x h
theorem draws_nn (cell : Int) (n : Nat) : ∀ x ∈ draws cell n, 0 ≤ x ∧ x < 1000 := drawsFrom_nn cell n 0 cell
def DrInv (cell : Int) (n : Nat) (i : Nat) (e : DL.Env) : Prop := ∃ (row : List Int) (left : Int) (v4 v5 : SL), e = [.val (.int cell), .val (.int n), .own (.lst (row.map .int)), .val (.int left), v4, v5] ∧ row.length = i ∧ row ++ drawsFrom cell (n - i) i left = draws cell n
theorem mul_small {i j : Int} (h : j.natAbs < 18446744073709551616) : opMul (.fz (.int i)) (.fz (.int j)) = .ok (.fz (.int (i * j))) := by
  unfold opMul
  rw [opI_int, if_pos (by
    rw [Bool.or_eq_true, decide_eq_true_eq, decide_eq_true_eq]
    exact .inr h)]
theorem div_small {i j : Int} (h : 0 < j ∧ j < 1073741824) : opDiv (.fz (.int i)) (.fz (.int j)) = .ok (.fz (.int (i / j))) := by
  unfold opDiv
  rw [opI_int, if_pos (by rw [Bool.and_eq_true, decide_eq_true_eq, decide_eq_true_eq]; exact h)]
theorem mod_pos {i j : Int} (h : 0 < j) : opMod (.fz (.int i)) (.fz (.int j)) = .ok (.fz (.int (i % j))) := by
  unfold opMod
  rw [opI_int, if_pos (by rw [decide_eq_true_eq]; exact h)]
theorem sub_ints (i j : Int) : opSub (.fz (.int i)) (.fz (.int j)) = .ok (.fz (.int (i - j))) := rfl
theorem pow_18 : opPow (.fz (.int 10)) (.fz (.int 18)) = .ok (.fz (.int 1000000000000000000)) := by
  unfold opPow
  rw [opI_int, if_pos (by decide +kernel), show (10 : Int) ^ (18 : Int).toNat = 1000000000000000000 by decide +kernel]
theorem int_int (i : Int) : gInt [.fz (.int i)] = .ok (.fz (.int i)) := rfl
theorem app_ok {i : Nat} {m : DL.Env → Rz EV} {env : DL.Env} {ds : List D} {a : EV} {d : D} (h : env.getD i .no = .own (.lst ds)) (hm : m env = .ok a) (hf : a.fr = .fz d) (hl : ds.length < sizeLine) : mApp i m env = .nx (env.set i (.own (.lst (ds ++ [d])))) := by
  unfold mApp
  rw [h]
  dsimp only
  rw [hm]
  dsimp only
  rw [hf]
  dsimp only
  rw [if_pos hl]
theorem setF_ok {i : Nat} {m : DL.Env → Rz EV} {env : DL.Env} {a : EV} {d : D} (hm : m env = .ok a) (hf : a.fr = .fz d) : mSetF i m env = .nx (env.set i (.val d)) := by
  unfold mSetF onE
  rw [hm]
  dsimp only
  unfold stF
  rw [hf]
theorem setO_ok {i : Nat} {m : DL.Env → Rz EV} {env : DL.Env} {w : OW} (hm : m env = .ok (.ow true w)) : mSetO i m env = .nx (env.set i (.own w)) := by
  unfold mSetO onE
  rw [hm]
  rfl
theorem seq_ok {a b : DL.Env → Out} {env e : DL.Env} (h : a env = .nx e) : mSeq a b env = b e := by
  unfold mSeq
  rw [h]
theorem seq_ret {a b : DL.Env → Out} {env : DL.Env} {ev : EV} (h : a env = .ret ev) : mSeq a b env = .ret ev := by
  unfold mSeq
  rw [h]
theorem ifT {t : DL.Env → Rz Bool} {a b : DL.Env → Out} {env : DL.Env} (h : t env = .ok true) : mIfS t a b env = a env := by
  unfold mIfS
  rw [h]
  rfl
theorem ifF {t : DL.Env → Rz Bool} {a b : DL.Env → Out} {env : DL.Env} (h : t env = .ok false) : mIfS t a b env = b env := by
  unfold mIfS
  rw [h]
  rfl
theorem for_ok {it : DL.Env → Rz (List D)} {p : D → DL.Env → Rz DL.Env} {b : DL.Env → Out} {env : DL.Env} {ds : List D} (h : it env = .ok ds) : mFor it p b env = forF p b ds env := by
  unfold mFor
  rw [h]
theorem rng1_ok {a : DL.Env → Rz EV} {env : DL.Env} {n : Nat} (h : a env = .ok (.fz (.int n))) (hn : n < 4611686018427387904) : mRng1 (mCons a mNil) env = .ok ((List.range n).map fun (i : Nat) => .int i) := by
  unfold mRng1 mCons mNil
  rw [h]
  simp only [Rz.ok_bind, EV.fr_fz]
  rw [if_pos (by rw [Int.natAbs_natCast]; exact hn)]
  unfold DL.upTo
  rw [Int.toNat_natCast]
  simp only [Int.zero_add]
theorem drBody_hi {cell left : Int} {n x : Nat} {row : List Int} {v5 : SL} (h1 : 1000000000000000000 ≤ cell) (h2 : 0 < left) (hl : row.length < sizeLine) :
    l1__law_draws [.val (.int cell), .val (.int n), .own (.lst (row.map .int)), .val (.int left), .val (.int x), v5] = .nx [.val (.int cell), .val (.int n), .own (.lst ((row ++ [left % 1000]).map .int)), .val (.int (left / 1000)), .val (.int x), v5] := by
  unfold l1__law_draws
  rw [ifT (by simp only [mAnd, mB, m2, mV, mC, rdSlot, List.getD_cons_zero, List.getD_cons_succ, Rz.ok_bind, pow_18, opO_int, asB_bl, decide_eq_true h1, decide_eq_true h2, if_true]),
    seq_ok (app_ok (ds := row.map .int) (a := .fz (.int (left % 1000))) rfl (by simp only [m2, mCall, mCons, mNil, mV, mC, rdSlot, List.getD_cons_zero, List.getD_cons_succ, Rz.ok_bind, EV.fr_fz, int_int, mod_pos (show (0 : Int) < 1000 by decide)]) rfl (by rw [List.length_map]; exact hl)),
    setF_ok (a := .fz (.int (left / 1000))) (by simp only [m2, mV, mC, rdSlot, List.set_cons_zero, List.set_cons_succ, List.getD_cons_zero, List.getD_cons_succ, Rz.ok_bind, div_small (show (0 : Int) < 1000 ∧ (1000 : Int) < 1073741824 by decide)]) rfl]
  simp
theorem drBody_lo {cell left : Int} {n x : Nat} {row : List Int} {v5 : SL} (h : ¬ (1000000000000000000 ≤ cell ∧ 0 < left)) (hx : x ≤ 1000) (hl : row.length < sizeLine) :
    l1__law_draws [.val (.int cell), .val (.int n), .own (.lst (row.map .int)), .val (.int left), .val (.int x), v5] = .nx [.val (.int cell), .val (.int n), .own (.lst ((row ++ [(((cell + 3) * ((x : Int) + 5) * 7919 % 100003) * ((cell + 3) * ((x : Int) + 5) * 7919 % 100003) + cell + 11 * (x : Int)) % 99991 / 100]).map .int)), .val (.int left), .val (.int x), .val (.int ((cell + 3) * ((x : Int) + 5) * 7919 % 100003))] := by
  have h4 : ((x : Int) + 5).natAbs < 18446744073709551616 := by omega
  have h5 : (x : Int).natAbs < 18446744073709551616 := by omega
  have h7 : (7919 : Int).natAbs < 18446744073709551616 := by decide
  have hl1 := Int.emod_nonneg ((cell + 3) * ((x : Int) + 5) * 7919) (show (100003 : Int) ≠ 0 by decide)
  have hl2 := Int.emod_lt_of_pos ((cell + 3) * ((x : Int) + 5) * 7919) (show (0 : Int) < 100003 by decide)
  unfold l1__law_draws
  rw [ifF (by
    simp only [mAnd, mB, m2, mV, mC, rdSlot, List.getD_cons_zero, List.getD_cons_succ, Rz.ok_bind, pow_18, opO_int, asB_bl]
    by_cases b1 : 1000000000000000000 ≤ cell
    · have b2 : ¬ 0 < left := fun z => h ⟨b1, z⟩
      simp only [decide_eq_true b1, decide_eq_false b2, if_true]
    · simp only [decide_eq_false b1, Bool.false_eq_true, if_false]),
    seq_ok (setF_ok (a := .fz (.int ((cell + 3) * ((x : Int) + 5) * 7919 % 100003))) (by
      simp only [m2, mCall, mCons, mNil, mV, mC, rdSlot, List.getD_cons_zero, List.getD_cons_succ, Rz.ok_bind, EV.fr_fz, int_int, opAdd_int, mul_small h4, mul_small h7, mod_pos (show (0 : Int) < 100003 by decide)]) rfl)]
  generalize (cell + 3) * ((x : Int) + 5) * 7919 % 100003 = z at hl1 hl2 ⊢
  have h6 : z.natAbs < 18446744073709551616 := by omega
  rw [app_ok (ds := row.map .int) (a := .fz (.int ((z * z + cell + 11 * (x : Int)) % 99991 / 100))) rfl (by
      simp only [m2, mCall, mCons, mNil, mV, mC, rdSlot, List.set_cons_zero, List.set_cons_succ, List.getD_cons_zero, List.getD_cons_succ, Rz.ok_bind, EV.fr_fz, int_int, opAdd_int, mul_small h5, mul_small h6, mod_pos (show (0 : Int) < 99991 by decide), div_small (show (0 : Int) < 100 ∧ (100 : Int) < 1073741824 by decide)]) rfl (by rw [List.length_map]; exact hl)]
  simp
theorem ev_draws (cell : Int) (n : Nat) (hn : n ≤ 1000) : F__law_draws [.int cell, .int n] = .ok (.ow false (.lst ((draws cell n).map .int))) := by
  unfold F__law_draws runB
  have e0 : b__law_draws ([D.int cell, .int n].map SL.val ++ List.replicate (6 - [D.int cell, .int n].length) SL.no) = .ret (.ow false (.lst ((draws cell n).map .int))) := by
    unfold b__law_draws
    rw [seq_ok (setO_ok (w := .lst []) rfl), seq_ok (setF_ok (a := .fz (.int cell)) rfl rfl)]
    rw [show (List.set (List.set (List.map SL.val [D.int cell, D.int n] ++ List.replicate (6 - [D.int cell, D.int n].length) SL.no) 2 (SL.own (OW.lst []))) 3 (.val (.int cell))) = [.val (.int cell), .val (.int n), .own (.lst []), .val (.int cell), .no, .no] from rfl]
    obtain ⟨e', h1, row, left, v4, v5, rfl, h2, h3⟩ := for_inv (p := pName 4) (b := l1__law_draws) (fun (i : Nat) => D.int i) (DrInv cell n) (List.range n) 0
      [.val (.int cell), .val (.int n), .own (.lst []), .val (.int cell), .no, .no] (by
        rintro i x e hx ⟨row, left, v4, v5, rfl, h2, h3⟩
        rw [Nat.zero_add] at h2 h3 ⊢
        have hi : i < n := by
          have := (List.getElem?_eq_some_iff.mp hx).1
          simpa using this
        have hxi : x = i := by
          have := (List.getElem?_eq_some_iff.mp hx).2
          simpa using this.symm
        subst hxi
        rw [show n - x = n - (x + 1) + 1 by omega, drawsFrom] at h3
        have hrow : row.length < sizeLine := Nat.lt_of_lt_of_le (by omega : row.length < 1001) (size_big (by decide))
        by_cases h18 : 1000000000000000000 ≤ cell ∧ 0 < left
        · rw [if_pos h18] at h3
          exact ⟨_, _, rfl, .inl (drBody_hi h18.1 h18.2 hrow), row ++ [left % 1000], left / 1000, _, _, rfl, by simp [h2], by rw [List.append_assoc]; exact h3⟩
        · rw [if_neg h18] at h3
          exact ⟨_, _, rfl, .inl (drBody_lo h18 (by omega) hrow), _, left, _, _, rfl, by simp [h2], by rw [List.append_assoc]; exact h3⟩) ⟨[], cell, .no, .no, rfl, rfl, rfl⟩
    rw [List.length_range, Nat.zero_add] at h2 h3
    rw [Nat.sub_self] at h3
    have h4 : row = draws cell n := by rw [← h3]; simp [drawsFrom]
    subst h4
    rw [seq_ok (by rw [for_ok (rng1_ok (n := n) rfl (by omega))]; exact h1)]
    rfl
  rw [e0]
theorem appF_ow2 {F : Fn} {d e : D} {b : Bool} {w : OW} (h : F [d, e] = .ok (.ow b w)) : appF F [.fz d, .fz e] = .ok (.ow true w) := by
  unfold appF
  rw [show [EV.fz d, EV.fz e].map EV.d = [d, e] from rfl, h]
  rfl
theorem appF_ow1 {F : Fn} {d : D} {b : Bool} {w : OW} (h : F [d] = .ok (.ow b w)) : appF F [.fz d] = .ok (.ow true w) := by
  unfold appF
  rw [show [EV.fz d].map EV.d = [d] from rfl, h]
  rfl
theorem ap_draws (cell : Int) (n : Nat) (hn : n ≤ 1000) : ∃ ds : List Nat, appF F__law_draws [.fz (.int cell), .fz (.int n)] = .ok (.ow true (.lst (ds.map fun (k : Nat) => .int k))) ∧ ds.length = n ∧ ∀ x ∈ ds, x < 1000 := by
  refine ⟨(draws cell n).map Int.toNat, ?_, by rw [List.length_map, draws_length], fun x hx => ?_⟩
  · rw [appF_ow2 (ev_draws cell n hn), List.map_map]
    congr 3
    apply List.map_congr_left
    intro x hx
    have := (draws_nn cell n x hx).1
    show D.int x = D.int ((x.toNat : Nat) : Int)
    rw [Int.toNat_of_nonneg this]
  · obtain ⟨y, hy, rfl⟩ := List.mem_map.mp hx
    have := draws_nn cell n y hy
    omega
theorem ix_nat (ds : List Nat) (i : Nat) (h : i < ds.length) : opIx (.fz (.lst (ds.map fun (k : Nat) => .int k))) (.fz (.int i)) = .ok (.fz (.int (ds[i] : Nat))) := by
  apply ix_lst
  rw [List.getElem?_map, List.getElem?_eq_getElem h]
  rfl
theorem mod_nat (a b : Nat) (h : 0 < b) : opMod (.fz (.int (a : Nat))) (.fz (.int (b : Nat))) = .ok (.fz (.int ((a % b : Nat) : Int))) := by
  rw [mod_pos (by omega)]
  rfl
theorem add_nat (a b : Nat) : opAdd (.fz (.int (a : Nat))) (.fz (.int (b : Nat))) = .ok (.fz (.int ((a + b : Nat) : Int))) := by
  rw [opAdd_int]
  rfl
end LW
namespace DL
open PySem L2
@[simp] theorem mC_e (d : D) (env : Env) : mC d env = .ok (.fz d) := rfl
@[simp] theorem mV_e (i : Nat) (env : Env) : mV i env = rdSlot (env.getD i .no) := rfl
@[simp] theorem rdSlot_val (d : D) : rdSlot (.val d) = .ok (.fz d) := rfl
@[simp] theorem rdSlot_own (w : OW) : rdSlot (.own w) = .ok (.ow false w) := rfl
@[simp] theorem m2_e (ma mb : Env → Rz EV) (g : EV → EV → Rz EV) (env : Env) : m2 ma mb g env = (ma env >>= fun a => mb env >>= fun b => g a b) := rfl
@[simp] theorem mB_e (m : Env → Rz EV) (env : Env) : mB m env = (m env >>= asB) := rfl
@[simp] theorem mAnd_e (a b : Env → Rz Bool) (env : Env) : mAnd a b env = (a env >>= fun x => if x = true then b env else .ok false) := rfl
@[simp] theorem mOr_e (a b : Env → Rz Bool) (env : Env) : mOr a b env = (a env >>= fun x => if x = true then .ok true else b env) := rfl
@[simp] theorem mNot_e (a : Env → Rz Bool) (env : Env) : mNot a env = (a env >>= fun x => .ok (!x)) := rfl
@[simp] theorem mAndV_e (a b : Env → Rz EV) (env : Env) : mAndV a b env = (a env >>= fun x => asB x >>= fun k => if k = true then b env else .ok (.fz (.bl false))) := rfl
@[simp] theorem mOrV_e (a b : Env → Rz EV) (env : Env) : mOrV a b env = (a env >>= fun x => asB x >>= fun k => if k = true then .ok (.fz (.bl true)) else b env) := rfl
@[simp] theorem mNotV_e (a : Env → Rz EV) (env : Env) : mNotV a env = (a env >>= fun x => asB x >>= fun k => .ok (.fz (.bl (!k)))) := rfl
@[simp] theorem mIf_e (t : Env → Rz Bool) (a b : Env → Rz EV) (env : Env) : mIf t a b env = (t env >>= fun x => if x = true then a env else b env) := rfl
@[simp] theorem mNil_e (env : Env) : mNil env = .ok [] := rfl
@[simp] theorem mCons_e (a : Env → Rz EV) (r : Env → Rz (List EV)) (env : Env) : mCons a r env = (a env >>= fun x => r env >>= fun xs => .ok (x.fr :: xs)) := rfl
@[simp] theorem mCall_e (a : Env → Rz (List EV)) (g : List EV → Rz EV) (env : Env) : mCall a g env = (a env >>= fun xs => g xs) := rfl
@[simp] theorem mFn_e (F : Fn) (a : Env → Rz (List EV)) (n : Nat) (env : Env) : mFn F a n env = (a env >>= fun evs => if evs.length = n then appF F evs else .stuck) := rfl
@[simp] theorem mMake_e (c : Str) (n : Nat) (IF : IFn) (m : Env → Rz (List EV)) (env : Env) : mMake c n IF m env = (m env >>= fun evs => if evs.length = n then appI c IF evs else .stuck) := rfl
@[simp] theorem mTup_e (a : Env → Rz (List EV)) (env : Env) : mTup a env = (a env >>= fun xs => orStuck (allFz xs) >>= fun ds => if ds.length ≤ sizeLine then .ok (.fz (.tup ds)) else .stuck) := rfl
@[simp] theorem mLst_e (a : Env → Rz (List EV)) (env : Env) : mLst a env = (a env >>= fun xs => orStuck (allFz xs) >>= fun ds => if ds.length ≤ sizeLine then .ok (.ow true (.lst ds)) else .stuck) := rfl
@[simp] theorem mFld_e (cs : List Str) (f : Str) (m : Env → Rz EV) (env : Env) : mFld cs f m env = (m env >>= fun a => orStuck (fldD cs f a.d) >>= fun d => .ok (.fz d)) := rfl
@[simp] theorem mSl_e (m : Env → Rz EV) (lo hi : Option (Env → Rz EV)) (env : Env) : mSl m lo hi env = (m env >>= fun a => mPart lo env >>= fun l => mPart hi env >>= fun h => gSl a l h) := rfl
@[simp] theorem mPart_none (env : Env) : mPart none env = .ok none := rfl
@[simp] theorem mPart_some (m : Env → Rz EV) (env : Env) : mPart (some m) env = (m env >>= fun a => match a with
    | .fz (.int i) => .ok (some i)
    | _ => .stuck) := rfl
@[simp] theorem mM1_e (ma mb : Env → Rz EV) (g : Str → EV → Rz EV) (env : Env) : mM1 ma mb g env = (ma env >>= fun a => isS a >>= fun s => mb env >>= fun b => g s b) := rfl
@[simp] theorem mItems_e (m : Env → Rz EV) (env : Env) : mItems m env = (m env >>= fun a => frD a >>= items) := rfl
@[simp] theorem mSortSet_e (m : Env → Rz EV) (env : Env) : mSortSet m env = (m env >>= sortSetD) := rfl
@[simp] theorem mRet_e (m : Env → Rz EV) (env : Env) : mRet m env = (match m env with
    | .ok ev => .ret ev
    | .exc e => .exc e env
    | .stuck => .stuck) := rfl
@[simp] theorem mSeq_e (a b : Env → Out) (env : Env) : mSeq a b env = (match a env with
    | .nx e => b e
    | o => o) := rfl
@[simp] theorem mIfS_e (t : Env → Rz Bool) (a b : Env → Out) (env : Env) : mIfS t a b env = (match t env with
    | .ok c => if c = true then a env else b env
    | .exc e => .exc e env
    | .stuck => .stuck) := rfl
@[simp] theorem mSetF_e (i : Nat) (m : Env → Rz EV) (env : Env) : mSetF i m env = (match m env with
    | .ok ev => stF i ev env
    | .exc e => .exc e env
    | .stuck => .stuck) := rfl
@[simp] theorem mSetO_e (i : Nat) (m : Env → Rz EV) (env : Env) : mSetO i m env = (match m env with
    | .ok ev => stO i ev env
    | .exc e => .exc e env
    | .stuck => .stuck) := rfl
@[simp] theorem stF_old (i : Nat) (w : OW) (env : Env) : stF i (.ow false w) env = .stuck := rfl
@[simp] theorem opEq_e (a b : EV) : opEq a b = (orStuck (eqD a.d b.d) >>= fun k => .ok (.fz (.bl k))) := rfl
@[simp] theorem opNe_e (a b : EV) : opNe a b = (orStuck (eqD a.d b.d) >>= fun k => .ok (.fz (.bl (!k)))) := rfl
@[simp] theorem opIx_e (a b : EV) : opIx a b = (orStuck (ixD a b) >>= fun d => .ok (.fz d)) := rfl
@[simp] theorem ixD_lst (ds : List D) (i : Int) : ixD (.fz (.lst ds)) (.fz (.int i)) = atI ds i := rfl
@[simp] theorem ixD_own (n : Bool) (ds : List D) (i : Int) : ixD (.ow n (.lst ds)) (.fz (.int i)) = atI ds i := rfl
@[simp] theorem ixD_tup (ds : List D) (i : Int) : ixD (.fz (.tup ds)) (.fz (.int i)) = atI ds i := rfl
@[simp] theorem pName_e (i : Nat) (d : D) (env : Env) : pName i d env = .ok (env.set i (.val d)) := rfl
@[simp] theorem frD_old (w : OW) : frD (.ow false w) = .stuck := rfl
@[simp] theorem gLen_lst' (b : Bool) (ds : List D) : gLen [.ow b (.lst ds)] = .ok (.fz (.int ds.length)) := rfl
@[simp] theorem gLen_l (ds : List D) : gLen [.fz (.lst ds)] = .ok (.fz (.int ds.length)) := rfl
@[simp] theorem gLen_t (ds : List D) : gLen [.fz (.tup ds)] = .ok (.fz (.int ds.length)) := rfl
@[simp] theorem gLen_s (ns : List Int) : gLen [.fz (.scr ns)] = .ok (.fz (.int ns.length)) := rfl
@[simp] theorem gInt_i (i : Int) : gInt [.fz (.int i)] = .ok (.fz (.int i)) := rfl
@[simp] theorem lenD_lst (ds : List D) : lenD (.lst ds) = some (.int ds.length) := rfl
@[simp] theorem lenD_tup (ds : List D) : lenD (.tup ds) = some (.int ds.length) := rfl
@[simp] theorem lenD_scr (ds : List Int) : lenD (.scr ds) = some (.int ds.length) := rfl
@[simp] theorem absD_int (i : Int) : absD (.int i) = some (.int (if i < 0 then -i else i)) := rfl
@[simp] theorem intD_int (i : Int) : intD (.int i) = some (.int i) := rfl
theorem allD_bls (f : List Bool → Bool) (bs : List Bool) : allD f (.lst (bs.map .bl)) = some (.bl (f bs)) := by simp [allD]
@[simp] theorem allD_const {α : Type} (l : List α) : allD (fun bs => bs.all id) (.lst (l.map fun _ => .bl true)) = some (.bl true) := by
  rw [show (l.map fun _ => D.bl true) = (l.map fun _ => true).map D.bl by rw [List.map_map]; rfl, allD_bls]
  simp
def PL : Nat → D → Prop
  | 0, _ => False
  | _ + 1, .non => True
  | _ + 1, .bl _ => True
  | _ + 1, .int _ => True
  | _ + 1, .str x => PyData.strOk x = true
  | n + 1, .tup ds => ds.length ≤ 100000 ∧ ∀ d ∈ ds, PL n d
  | n + 1, .lst ds => ds.length ≤ 100000 ∧ ∀ d ∈ ds, PL n d
  | _ + 1, _ => False
theorem canLays_of : ∀ {n : Nat} {ds : List D}, (∀ d ∈ ds, (toPy d).canLay0 = true ∧ (toPy d).depth ≤ n) → PyData.canLayAll0 (toPys ds) = true ∧ PyData.depthAll (toPys ds) ≤ n
  | n, [], _ => by simp [toPys, PyData.canLayAll0, PyData.depthAll]
  | n, d :: ds, h => by
    obtain ⟨h1, h2⟩ := h d List.mem_cons_self
    obtain ⟨h3, h4⟩ := canLays_of (n := n) fun e he => h e (.tail _ he)
    simp only [toPys, PyData.canLayAll0, PyData.depthAll, h1, h3, Bool.and_self, true_and]
    exact Nat.max_le.mpr ⟨h2, h4⟩
theorem PL.lay : ∀ {n : Nat} {d : D}, PL n d → (toPy d).canLay0 = true ∧ (toPy d).depth ≤ n
  | 0, _, h => h.elim
  | _ + 1, .non, _ => by simp [toPy, PyData.canLay0, PyData.depth]
  | _ + 1, .bl _, _ => by simp [toPy, PyData.canLay0, PyData.depth]
  | _ + 1, .int _, _ => by simp [toPy, PyData.canLay0, PyData.depth]
  | _ + 1, .str _, h => by
    have h : PyData.strOk _ = true := h
    simp [toPy, PyData.canLay0, PyData.depth, h]
  | n + 1, .tup ds, h => by
    obtain ⟨h3, h4⟩ := canLays_of (n := n) fun e he => (h.2 e he).lay
    simp only [toPy, PyData.canLay0, PyData.depth, h3, true_and]
    omega
  | n + 1, .lst ds, h => by
    obtain ⟨h3, h4⟩ := canLays_of (n := n) fun e he => (h.2 e he).lay
    simp only [toPy, PyData.canLay0, PyData.depth, h3, true_and]
    omega
theorem PL.shaped {n : Nat} {d : D} (h : PL n d) (hn : n ≤ 64) : SeqAt.shaped (toPy d) = true := by
  obtain ⟨h1, h2⟩ := h.lay
  unfold SeqAt.shaped
  rw [h1, decide_eq_true (Nat.le_trans h2 hn)]
  rfl

theorem eqD_refl {n : Nat} {d : D} (h : PL n d) (hn : n ≤ 64) : eqD d d = some true := by
  have hs := h.shaped hn
  have hr : PyData.eqv (toPy d) (toPy d) = true := SeqAt.eqv_refl _ h.lay.1
  cases d with
  | int i => simp
  | str x => simp
  | bl b => simp
  | non => simp only [eqD, hs, hr, and_self, if_true]
  | tup ds => simp only [eqD, hs, hr, and_self, if_true]
  | lst ds => simp only [eqD, hs, hr, and_self, if_true]
  | _ => cases n <;> exact h.elim
theorem PL.mono : ∀ {n m : Nat} {d : D}, n ≤ m → PL n d → PL m d
  | 0, _, _, _, h => h.elim
  | n + 1, 0, _, q, _ => absurd q (by omega)
  | n + 1, m + 1, .non, _, _ => trivial
  | n + 1, m + 1, .bl _, _, _ => trivial
  | n + 1, m + 1, .int _, _, _ => trivial
  | n + 1, m + 1, .str _, _, h => h
  | n + 1, m + 1, .tup ds, q, h => ⟨h.1, fun d hd => (h.2 d hd).mono (by omega)⟩
  | n + 1, m + 1, .lst ds, q, h => ⟨h.1, fun d hd => (h.2 d hd).mono (by omega)⟩
end DL
namespace LW
open PySem L2 DL
theorem appF_fz {F : Fn} {evs : List EV} {r : D} (h : F (evs.map EV.d) = .ok (.fz r)) (ha : allFzB evs = true) : appF F evs = .ok (.fz r) := by
  unfold appF
  rw [h]
  simp only [ha, if_true]
  rfl
theorem same_refl : ∀ (n : Nat) (d : D), PL n d → n ≤ 60 → F__law_same n [d, d] = .ok (.fz (.bl true))
  | 0, _, h, _ => h.elim
  | n + 1, d, h, hn => by
    have he := eqD_refl h (by omega)
    have seq : ∀ ds : List D, ds.length ≤ 100000 → (∀ e ∈ ds, PL n e) → ∀ x y : SL, (∀ i : Nat, i < ds.length → rdSlot x = .ok (.fz (.tup ds)) ∧ rdSlot y = .ok (.fz (.tup ds)) ∨ rdSlot x = .ok (.fz (.lst ds)) ∧ rdSlot y = .ok (.fz (.lst ds))) →
        ∀ z : SL, (mRng1 (mCons (mCall (mCons (mV 1) mNil) gLen) mNil)) [x, y, z] = .ok ((List.range ds.length).map fun (i : Nat) => .int i) → mLc (mRng1 (mCons (mCall (mCons (mV 1) mNil) gLen) mNil)) (pName 2) mYes (e1__law_same (F__law_same n)) [2] [x, y, z] = .ok (.ow true (.lst ((List.range ds.length).map fun _ => .bl true))) := fun ds hl hd x y hxy z hr => by
      refine mLc_all (i := 2) (e := e1__law_same (F__law_same n)) (env := [x, y, z]) (f := fun _ => .bl true) hr (fun i hi => by
        have hi := List.mem_range.mp hi
        refine ⟨.fz (.bl true), ?_, rfl⟩
        have ih := same_refl n ds[i] (hd _ (List.getElem_mem hi)) (by omega)
        have hx : atI ds (i : Int) = some ds[i] := atI_nat (List.getElem?_eq_getElem hi)
        unfold e1__law_same
        rcases hxy i hi with ⟨h1, h2⟩ | ⟨h1, h2⟩
        · simp [h1, h2, opIx, ixD, hx, appF_fz (F := F__law_same n) (evs := [.fz ds[i], .fz ds[i]]) ih rfl]
        · simp [h1, h2, opIx, ixD, hx, appF_fz (F := F__law_same n) (evs := [.fz ds[i], .fz ds[i]]) ih rfl]) (by rw [List.length_range]; exact size_big (by omega))
    show runB 3 (b__law_same (F__law_same n)) [d, d] = _
    unfold runB b__law_same
    cases d with
    | non => simp [opIs, DL.isNon]
    | bl b => simp [opIs, DL.isNon, isTy_bl, kitB_bb, opEq]
    | int i => simp [opIs, DL.isNon, isTy_int, kitB_ib, kitB_ii, opEq]
    | str x => simp [opIs, DL.isNon, isTy_str, kitB_sb, kitB_si, kitB_ss, opEq]
    | tup ds =>
      have hr : (mRng1 (mCons (mCall (mCons (mV 1) mNil) gLen) mNil)) [.val (.tup ds), .val (.tup ds), .no] = .ok ((List.range ds.length).map fun (i : Nat) => .int i) := rng1_ok rfl (by have := h.1; omega)
      have hc := seq ds h.1 h.2 (.val (.tup ds)) (.val (.tup ds)) (fun _ _ => .inl ⟨rfl, rfl⟩) .no hr
      simp [opIs, DL.isNon, isTy_tup, kitB_tb, kitB_ti, kitB_ts, kitB_tt, kitB_tl, opEq, he, hc]
    | lst ds =>
      have hr : (mRng1 (mCons (mCall (mCons (mV 1) mNil) gLen) mNil)) [.val (.lst ds), .val (.lst ds), .no] = .ok ((List.range ds.length).map fun (i : Nat) => .int i) := rng1_ok rfl (by have := h.1; omega)
      have hc := seq ds h.1 h.2 (.val (.lst ds)) (.val (.lst ds)) (fun _ _ => .inr ⟨rfl, rfl⟩) .no hr
      simp [opIs, DL.isNon, isTy_lst, kitB_lb, kitB_li, kitB_ls, kitB_lt, kitB_ll, opEq, he, hc]
    | _ => exact h.elim
end LW
namespace LW
open PySem L2 DL
section
variable {α : Type}
def insB (lt : α → α → Bool) (x : α) (l : List α) : List α := l.takeWhile (lt · x) ++ x :: l.dropWhile (lt · x)
def isort (lt : α → α → Bool) (l : List α) : List α := l.foldl (fun acc x => insB lt x acc) []
theorem tw_get (p : α → Bool) : ∀ (l : List α) (i : Nat), i < (l.takeWhile p).length → ∃ h : i < l.length, p l[i] = true
  | [], i, h => by simp at h
  | x :: l, i, h => by
    rw [List.takeWhile_cons] at h
    cases hp : p x with
    | false => rw [hp] at h; simp at h
    | true =>
      rw [hp] at h
      cases i with
      | zero => exact ⟨by simp, hp⟩
      | succ i =>
        obtain ⟨h1, h2⟩ := tw_get p l i (by simpa using h)
        exact ⟨by simpa using h1, by simpa using h2⟩
theorem tw_end (p : α → Bool) : ∀ (l : List α) (h : (l.takeWhile p).length < l.length), p l[(l.takeWhile p).length] = false
  | [], h => by simp at h
  | x :: l, h => by
    cases hp : p x with
    | false =>
      have e : (x :: l).takeWhile p = [] := by rw [List.takeWhile_cons, hp]; rfl
      simp only [e, List.length_nil, List.getElem_cons_zero, hp]
    | true =>
      have e : (x :: l).takeWhile p = x :: l.takeWhile p := by rw [List.takeWhile_cons, hp]; rfl
      rw [e] at h
      have ih := tw_end p l (by simpa using h)
      simp only [e, List.length_cons, List.getElem_cons_succ, ih]
theorem tw_len (p : α → Bool) (l : List α) : (l.takeWhile p).length ≤ l.length := (List.takeWhile_sublist p).length_le
theorem tw_take (p : α → Bool) : ∀ l : List α, l.take (l.takeWhile p).length = l.takeWhile p
  | [] => rfl
  | x :: l => by
    rw [List.takeWhile_cons]
    cases hp : p x with
    | false => rfl
    | true => simp only [if_true, List.length_cons, List.take_succ_cons, tw_take p l]
theorem dw_drop (p : α → Bool) : ∀ l : List α, l.drop (l.takeWhile p).length = l.dropWhile p
  | [] => rfl
  | x :: l => by
    rw [List.takeWhile_cons, List.dropWhile_cons]
    cases hp : p x with
    | false => rfl
    | true => simp only [if_true, List.length_cons, List.drop_succ_cons, dw_drop p l]
theorem insB_length (lt : α → α → Bool) (x : α) (l : List α) : (insB lt x l).length = l.length + 1 := by
  unfold insB
  have := congrArg List.length (List.takeWhile_append_dropWhile (p := (lt · x)) (l := l))
  rw [List.length_append] at this
  rw [List.length_append, List.length_cons]
  omega
theorem insB_perm (lt : α → α → Bool) (x : α) (l : List α) : (insB lt x l).Perm (x :: l) := by
  unfold insB
  refine List.perm_middle.trans (.cons x ?_)
  rw [List.takeWhile_append_dropWhile]
theorem isort_go (lt : α → α → Bool) : ∀ (l acc : List α), (l.foldl (fun acc x => insB lt x acc) acc).Perm (l ++ acc)
  | [], acc => .refl _
  | x :: l, acc => by
    show (l.foldl _ (insB lt x acc)).Perm _
    refine (isort_go lt l _).trans ?_
    refine ((insB_perm lt x acc).append_left l).trans ?_
    exact List.perm_middle
theorem isort_perm (lt : α → α → Bool) (l : List α) : (isort lt l).Perm l := (isort_go lt l []).trans (by simp)
theorem ev_sorted {en : α → D} {lt : α → α → Bool} (hlt : ∀ a b, opLt (.fz (en a)) (.fz (en b)) = .ok (.fz (.bl (lt a b)))) (xs : List α) (hl : xs.length ≤ 1000000) (d : D) (hd : items d = .ok (xs.map en)) (hf : frD (.fz d) = .ok d) :
    F__law_sorted [d] = .ok (.ow false (.lst ((isort lt xs).map en))) := by
  unfold F__law_sorted runB b__law_sorted
  have inner : ∀ (acc : List α) (x : α) (v0 v3 : SL), acc.length ≤ 1000000 → l2__law_sorted [v0, .own (.lst (acc.map en)), .val (en x), v3] = .nx [v0, .own (.lst ((insB lt x acc).map en)), .val (en x), .val (.int ((acc.takeWhile (lt · x)).length : Nat))] := fun acc x v0 v3 ha => by
    obtain ⟨a', h1, h2, h3⟩ := wh_inv (c := w1__law_sorted) (b := l1__law_sorted) (fun (k : Nat) => [v0, .own (.lst (acc.map en)), .val (en x), .val (.int k)]) (fun k => if h : k < acc.length then lt acc[k] x else false) (fun k => k + 1) (fun k => acc.length - k) (fun k => k ≤ (acc.takeWhile (lt · x)).length)
      (fun k hk => by
        unfold w1__law_sorted
        by_cases h : k < acc.length
        · have h' : (k : Int) < (acc.length : Int) := by omega
          have hg : ixD (.ow false (.lst (acc.map en))) (.fz (.int k)) = some (en acc[k]) := atI_nat (by rw [List.getElem?_map, List.getElem?_eq_getElem h]; rfl)
          simp [h, h', opIx, hg, hlt]
        · have h' : ¬ (k : Int) < (acc.length : Int) := by omega
          simp [h, h'])
      (fun k hk hc => by
        have h : k < acc.length := by
          by_cases h : k < acc.length
          · exact h
          · rw [dif_neg h] at hc; cases hc
        rw [dif_pos h] at hc
        refine ⟨.inl ?_, ?_, ?_⟩
        · unfold l1__law_sorted
          simp
        · show k + 1 ≤ _
          by_cases q : k < (acc.takeWhile (lt · x)).length
          · exact q
          · have e : k = (acc.takeWhile (lt · x)).length := by omega
            subst e
            have := tw_end (lt · x) acc h
            rw [this] at hc; cases hc
        · show acc.length - (k + 1) < acc.length - k
          omega) fuel 0 (Nat.zero_le _) (fuel_big (by omega))
    have ha' : a' = (acc.takeWhile (lt · x)).length := by
      by_cases q : a' < (acc.takeWhile (lt · x)).length
      · obtain ⟨h4, h5⟩ := tw_get (lt · x) acc a' q
        rw [dif_pos h4, h5] at h3
        cases h3
      · omega
    subst ha'
    unfold l2__law_sorted
    have hw : mWhile w1__law_sorted l1__law_sorted [v0, .own (.lst (acc.map en)), .val (en x), .val (.int 0)] = .nx [v0, .own (.lst (acc.map en)), .val (en x), .val (.int ((acc.takeWhile (lt · x)).length : Nat))] := h1
    have hlen := tw_len (lt · x) acc
    have hz : acc.length < sizeLine := Nat.lt_of_lt_of_le (by omega : acc.length < 16777216) (size_big (by decide))
    have hab : ((acc.takeWhile (lt · x)).length : Int).natAbs < 9223372036854775808 := by
      rw [Int.natAbs_natCast]; omega
    simp [hw, mIns, hz]
    rw [if_pos (by omega)]
    simp [insB, List.map_append, ← List.map_take, ← List.map_drop, tw_take, dw_drop]
  obtain ⟨e', h1, acc, v2, v3, rfl, h2, h3⟩ := for_inv (p := pName 2) (b := l2__law_sorted) en (fun i e => ∃ (acc : List α) (v2 v3 : SL), e = [.val d, .own (.lst (acc.map en)), v2, v3] ∧ acc.length = i ∧ acc = (xs.take i).foldl (fun acc x => insB lt x acc) []) xs 0
    [.val d, .own (.lst []), .no, .no] (by
      rintro i x e hx ⟨acc, v2, v3, rfl, h2, h3⟩
      have hi : i < xs.length := (List.getElem?_eq_some_iff.mp hx).1
      rw [Nat.zero_add] at h2 h3 ⊢
      refine ⟨_, _, rfl, .inl (inner acc x _ _ (by omega)), insB lt x acc, _, _, rfl, by rw [insB_length]; omega, ?_⟩
      rw [List.take_add_one, hx, List.foldl_append, ← h3]
      rfl) ⟨[], .no, .no, rfl, rfl, rfl⟩
  rw [Nat.zero_add, List.take_length] at h3
  have hfor : mFor (mItems (mV 0)) (pName 2) l2__law_sorted [.val d, .own (.lst []), .no, .no] = .nx [.val d, .own (.lst (acc.map en)), v2, v3] := by
    rw [for_ok (ds := xs.map en) (by simp [hf, hd])]
    exact h1
  have h4 : acc = isort lt xs := h3
  subst h4
  simp [hfor, allFz]
end

section
variable {α : Type} {lt : α → α → Bool}
def Up (lt : α → α → Bool) (l : List α) : Prop := l.Pairwise fun a b => lt b a = false
theorem up_insB (h1 : ∀ a b c, lt b a = false → lt c b = false → lt c a = false) (h2 : ∀ a b, lt a b = true → lt b a = false) (x : α) {l : List α} (h : Up lt l) : Up lt (insB lt x l) := by
  unfold insB Up
  have hl : Up lt (l.takeWhile (lt · x) ++ l.dropWhile (lt · x)) := by rw [List.takeWhile_append_dropWhile]; exact h
  obtain ⟨a1, a2, a3⟩ := List.pairwise_append.mp hl
  have hx : ∀ z ∈ l.dropWhile (lt · x), lt z x = false := by
    have e : ∀ y r, l.dropWhile (lt · x) = y :: r → lt y x = false := fun y r e => by
      have := List.head?_dropWhile_not (lt · x) l
      rw [e] at this
      simpa using this
    intro z hz
    cases hd : l.dropWhile (lt · x) with
    | nil => rw [hd] at hz; cases hz
    | cons y r =>
      have hy := e y r hd
      rw [hd] at hz a2
      rcases List.mem_cons.mp hz with rfl | hz
      · exact hy
      · exact h1 x y z hy ((List.pairwise_cons.mp a2).1 z hz)
  refine List.pairwise_append.mpr ⟨a1, List.pairwise_cons.mpr ⟨hx, a2⟩, fun a ha b hb => ?_⟩
  rcases List.mem_cons.mp hb with rfl | hb
  · obtain ⟨i, hi, rfl⟩ := List.mem_iff_getElem.mp ha
    obtain ⟨q1, q2⟩ := tw_get (lt · b) l i hi
    have e : (l.takeWhile (lt · b))[i] = l[i] := (List.takeWhile_prefix _).getElem hi
    rw [e]
    exact h2 _ _ q2
  · exact a3 a ha b hb
theorem up_isort (h1 : ∀ a b c, lt b a = false → lt c b = false → lt c a = false) (h2 : ∀ a b, lt a b = true → lt b a = false) : ∀ (l acc : List α), Up lt acc → Up lt (l.foldl (fun acc x => insB lt x acc) acc)
  | [], _, h => h
  | x :: l, acc, h => up_isort h1 h2 l _ (up_insB h1 h2 x h)
end
theorem strLt_le {a b c : Str} (h1 : strLt b a = false) (h2 : strLt c b = false) : strLt c a = false := by
  have e : ∀ {x y : Str}, strLt x y = false ↔ ¬ x.cps.toList < y.cps.toList := fun {x y} => by
    rw [← Bool.not_eq_true, DS.strLt_iff]
  rw [e] at h1 h2 ⊢
  rw [List.not_lt] at h1 h2 ⊢
  exact List.le_trans h1 h2
theorem strLt_asym {a b : Str} (h : strLt a b = true) : strLt b a = false := by
  rw [← Bool.not_eq_true, DS.strLt_iff]
  exact List.lt_asymm (DS.strLt_iff.mp h)
def ddup (l : List Str) : List Str := l.foldl (fun acc x => if x ∈ acc then acc else acc ++ [x]) []
theorem ddup_go : ∀ (l acc : List Str), DS.Asc acc → Up strLt (acc ++ l) → DS.Asc (l.foldl (fun acc x => if x ∈ acc then acc else acc ++ [x]) acc) ∧ ∀ z, z ∈ l.foldl (fun acc x => if x ∈ acc then acc else acc ++ [x]) acc ↔ z ∈ acc ++ l
  | [], acc, h, _ => ⟨h, fun z => by simp⟩
  | x :: l, acc, h, hu => by
    obtain ⟨u1, u2, u3⟩ := List.pairwise_append.mp hu
    rw [List.foldl_cons]
    by_cases hx : x ∈ acc
    · rw [if_pos hx]
      obtain ⟨i1, i2⟩ := ddup_go l acc h (List.pairwise_append.mpr ⟨u1, (List.pairwise_cons.mp u2).2, fun a ha b hb => u3 a ha b (.tail _ hb)⟩)
      refine ⟨i1, fun z => (i2 z).trans ?_⟩
      rw [List.mem_append, List.mem_append, List.mem_cons]
      exact ⟨fun q => q.elim .inl fun q => .inr (.inr q), fun q => q.elim .inl fun q => q.elim (fun e => .inl (e ▸ hx)) .inr⟩
    · rw [if_neg hx]
      have ha : DS.Asc (acc ++ [x]) := List.pairwise_append.mpr ⟨h, List.pairwise_singleton _ _, fun a ha b hb => by
        obtain rfl := List.mem_singleton.mp hb
        have q := u3 a ha b List.mem_cons_self
        by_cases e : a.cps.toList < b.cps.toList
        · exact e
        · have q2 : ¬ b.cps.toList < a.cps.toList := by rw [← DS.strLt_iff, q]; decide
          exact absurd (DS.str_eq (DS.nlt_total e q2)) fun e => hx (e ▸ ha)⟩
      obtain ⟨i1, i2⟩ := ddup_go l (acc ++ [x]) ha (by rw [List.append_assoc]; exact hu)
      exact ⟨i1, fun z => (i2 z).trans (by simp)⟩
theorem ddup_isort (l : List Str) : ddup (isort strLt l) = DS.sortU l := by
  have hu : Up strLt (isort strLt l) := up_isort (lt := strLt) (fun _ _ _ h1 h2 => strLt_le h1 h2) (fun _ _ h => strLt_asym h) l [] List.Pairwise.nil
  obtain ⟨i1, i2⟩ := ddup_go (isort strLt l) [] List.Pairwise.nil (by simpa using hu)
  exact DS.sortU_of i1 fun x => (i2 x).trans (by simp [(isort_perm strLt l).mem_iff])
def goodS (w : Str) : Bool := decide (w = "$") || isSg w.cps.toList
theorem ev_is_sign' (w : Str) (h : w.cps.toList.length ≤ 16777216) : F_is_sign [.str w] = .ok (.fz (.bl (isSg w.cps.toList))) := by
  have := ev_is_sign w.cps.toList h
  rwa [DL.mk_of] at this
abbrev symE (w : Str) : Exn := ⟨"SymbolError", [("symbol", .str w)]⟩
theorem init_loop (v0 v1 : SL) : ∀ (ws : List Str) (v2 : SL), (∀ w ∈ ws, w.cps.toList.length ≤ 16777216) → ∃ v2', forF (pName 2) l1_Signs_init (ws.map .str) [v0, v1, v2] = match ws.find? (fun w => !goodS w) with
    | some w => .exc (symE w) [v0, v1, v2']
    | none => .nx [v0, v1, v2']
  | [], v2, _ => ⟨v2, rfl⟩
  | w :: ws, v2, h => by
    have hs := appF_fz (evs := [.fz (.str w)]) (ev_is_sign' w (h w List.mem_cons_self)) rfl
    have e : l1_Signs_init [v0, v1, .val (.str w)] = if goodS w = true then .nx [v0, v1, .val (.str w)] else .exc (symE w) [v0, v1, .val (.str w)] := by
      unfold l1_Signs_init
      by_cases hd : w = "$"
      · subst hd
        simp [opNe, goodS]
      · cases hg : isSg w.cps.toList with
        | true =>
          simp [opNe, hd, goodS, hs, hg]
        | false =>
          simp [opNe, hd, goodS, hs, hg, mRaise, allFz]
    rw [List.map_cons, forF, List.find?_cons]
    simp only [pName_e, List.set_cons_zero, List.set_cons_succ, e]
    cases hg : goodS w with
    | true =>
      obtain ⟨v2', i⟩ := init_loop v0 v1 ws (.val (.str w)) fun x hx => h x (.tail _ hx)
      exact ⟨v2', by simpa using i⟩
    | false => exact ⟨.val (.str w), by simp⟩
theorem ev_init {d : D} {ws : List Str} (hd : d = .lst (ws.map .str) ∨ d = .tup (ws.map .str)) (hl : ws.length < 4000) (hw : ∀ w ∈ ws, w.cps.toList.length ≤ 16777216) : I_Signs_init [d] = match ws.find? (fun w => !goodS w) with
    | some w => .exc (symE w)
    | none => .ok [("words", .tup ((DS.sortU ws).map .str))] := by
  unfold I_Signs_init DL.runI b_Signs_init
  have hi : mItems (mV 1) [.own (.self "Signs" []), .val d, .no] = .ok (ws.map .str) := by
    rcases hd with rfl | rfl <;> simp
  obtain ⟨v2', h⟩ := init_loop (.own (.self "Signs" [])) (.val d) ws .no hw
  have hfor : mFor (mItems (mV 1)) (pName 2) l1_Signs_init [.own (.self "Signs" []), .val d, .no] = _ := (for_ok hi).trans h
  have hs : sortSetD (.fz d) = .ok (.ow true (.lst ((DS.sortU ws).map .str))) := by
    rcases hd with rfl | rfl <;> simp [sortSetD, hl]
  cases hf : ws.find? (fun w => !goodS w) with
  | some w =>
    rw [hf] at hfor
    simp [hfor]
  | none =>
    rw [hf] at hfor
    simp [hfor, mSetFld, hs, seqD, putD]
end LW
namespace LW
open PySem L2 DL
abbrev stD (l : List Str) : List D := l.map .str
theorem any_str (w : Str) : ∀ bs : List Str, ((stD bs).any fun e => eqF e (.str w)) = decide (w ∈ bs)
  | [] => rfl
  | b :: bs => by
    show (eqF (.str b) (.str w) || _) = _
    rw [any_str w bs]
    by_cases h : b = w
    · subst h; simp [eqF]
    · have h2 : ¬ w = b := fun e => h e.symm
      simp [eqF, h, h2]
theorem inD_strs {a b : EV} {w : Str} {bs : List Str} (ha : a.d = .str w) (hb : b.d = .lst (stD bs) ∨ b.d = .tup (stD bs)) : inD a b = some (decide (w ∈ bs)) := by
  have hf : (stD bs).all flatD = true := by rw [List.all_map]; exact List.all_eq_true.mpr fun _ _ => rfl
  have hw : flatD (.str w) = true := rfl
  unfold inD
  rcases hb with hb | hb <;> (rw [hb]; dsimp only; rw [ha]; unfold inDs; rw [if_pos ⟨hw, hf⟩, any_str])
theorem in_strs {a b : EV} {w : Str} {bs : List Str} (ha : a.d = .str w) (hb : b.d = .lst (stD bs) ∨ b.d = .tup (stD bs)) : opIn a b = .ok (.fz (.bl (decide (w ∈ bs)))) := by
  unfold opIn; rw [inD_strs ha hb]; rfl
theorem ni_strs {a b : EV} {w : Str} {bs : List Str} (ha : a.d = .str w) (hb : b.d = .lst (stD bs) ∨ b.d = .tup (stD bs)) : opNi a b = .ok (.fz (.bl (!decide (w ∈ bs)))) := by
  unfold opNi; rw [inD_strs ha hb]; rfl
theorem in_strsL (w : Str) (bs : List Str) : opIn (.fz (.str w)) (.fz (.lst (stD bs))) = .ok (.fz (.bl (decide (w ∈ bs)))) := in_strs rfl (.inl rfl)
theorem ni_strsL (w : Str) (bs : List Str) : opNi (.fz (.str w)) (.fz (.lst (stD bs))) = .ok (.fz (.bl (!decide (w ∈ bs)))) := ni_strs rfl (.inl rfl)
theorem ni_strsO (w : Str) (bs : List Str) (n : Bool) : opNi (.fz (.str w)) (.ow n (.lst (stD bs))) = .ok (.fz (.bl (!decide (w ∈ bs)))) := ni_strs rfl (.inl rfl)
theorem in_strsT (w : Str) (bs : List Str) : opIn (.fz (.str w)) (.fz (.tup (stD bs))) = .ok (.fz (.bl (decide (w ∈ bs)))) := in_strs rfl (.inr rfl)
theorem ni_strsT (w : Str) (bs : List Str) : opNi (.fz (.str w)) (.fz (.tup (stD bs))) = .ok (.fz (.bl (!decide (w ∈ bs)))) := ni_strs rfl (.inr rfl)
theorem cut_take (ds : List D) (n : Nat) : cutD ds none (some (n : Int)) = ds.take n := by
  have h0 : ¬ ((n : Int) < 0) := by omega
  unfold cutD HT.sIx
  simp [h0]
theorem cut_last (ds : List D) (d : D) : cutD (ds ++ [d]) none (some (-1)) = ds := by
  unfold cutD HT.sIx
  simp
  rw [show (-1 + ((ds.length : Int) + 1)).toNat = ds.length by omega]
  simp
theorem PL_str {n : Nat} {w : Str} (h : PyData.strOk w = true) : PL (n + 1) (.str w) := h
theorem PL_strs {n : Nat} {ws : List Str} (hl : ws.length ≤ 100000) (h : ∀ w ∈ ws, PyData.strOk w = true) : PL (n + 2) (.tup (stD ws)) := ⟨by rw [List.length_map]; exact hl, fun d hd => by
  obtain ⟨w, hw, rfl⟩ := List.mem_map.mp hd
  exact h w hw⟩
theorem PL_lstrs {n : Nat} {ws : List Str} (hl : ws.length ≤ 100000) (h : ∀ w ∈ ws, PyData.strOk w = true) : PL (n + 2) (.lst (stD ws)) := ⟨by rw [List.length_map]; exact hl, fun d hd => by
  obtain ⟨w, hw, rfl⟩ := List.mem_map.mp hd
  exact h w hw⟩
theorem pure_strs (ws : List Str) : pureDs (stD ws) = true := by
  induction ws with
  | nil => rfl
  | cons w ws ih => show (pureD (.str w) && pureDs (stD ws)) = true; rw [ih]; rfl
def signsR (ws : List Str) : Rz EV := match ws.find? (fun w => !goodS w) with
  | some w => .exc (symE w)
  | none => .ok (.ow true (.ins "Signs" [("words", .tup (stD (DS.sortU ws)))]))
theorem app_signs {a : EV} {ws : List Str} (hd : a.d = .lst (stD ws) ∨ a.d = .tup (stD ws)) (hl : ws.length < 4000) (hw : ∀ w ∈ ws, w.cps.toList.length ≤ 16777216) : appI "Signs" I_Signs_init [a] = signsR ws := by
  unfold appI signsR
  rw [show [a].map EV.d = [a.d] from rfl, ev_init hd hl hw]
  cases ws.find? (fun w => !goodS w) with
  | some w => simp [pureFs, pureD]
  | none => simp [pureFs, pureD, pure_strs]
theorem ev_of {ws : List Str} (hl : ws.length < 4000) (hw : ∀ w ∈ ws, w.cps.toList.length ≤ 16777216) : F_Signs_of [.cls "Signs", .tup (stD ws)] = signsR ws := by
  unfold F_Signs_of runB b_Signs_of
  have h := app_signs (a := .fz (.tup (stD ws))) (.inr rfl) hl hw
  simp [mMakeL, h]
  cases signsR ws <;> rfl
theorem app_of {ws : List Str} (hl : ws.length < 4000) (hw : ∀ w ∈ ws, w.cps.toList.length ≤ 16777216) : appF (cmD "Signs" true F_Signs_of) ((stD ws).map .fz) = signsR ws := by
  have e : ((stD ws).map EV.fz).map EV.d = stD ws := by rw [List.map_map]; exact List.map_id _
  have ha : allFzB ((stD ws).map EV.fz) = true := by
    generalize stD ws = l
    induction l with
    | nil => rfl
    | cons a l ih => exact ih
  unfold appF
  rw [e]
  show (match (cmD "Signs" true F_Signs_of) (stD ws) with
    | .ok r => _
    | .exc e => _
    | .stuck => _) = _
  rw [show cmD "Signs" true F_Signs_of (stD ws) = F_Signs_of [.cls "Signs", .tup (stD ws)] from rfl, ev_of hl hw, ha]
  unfold signsR
  cases ws.find? (fun w => !goodS w) <;> rfl

abbrev natD (ds : List Nat) : List D := ds.map fun (k : Nat) => .int k
theorem at_nat (ds : List Nat) (i : Int) (k : Nat) (hi : i = k) (h : k < ds.length) : atI (natD ds) i = some (.int (ds[k] : Nat)) := by
  subst hi
  rw [atI_nat]
  rw [List.getElem?_map, List.getElem?_eq_getElem h]; rfl
theorem ap_cell (ns : List Int) (x : Int) (k : Nat) (hx : x = k) : appF F__law_cell [.fz (.scr ns), .fz (.int x)] = .ok (.fz (.int (cellOf ns k))) := by
  subst hx
  exact appF_fz (evs := [.fz (.scr ns), .fz (.int k)]) (ev_cell ns k) rfl
theorem ap_dr (cell : Int) (j : Int) (n : Nat) (hj : j = n) (hn : n ≤ 1000) : ∃ ds : List Nat, appF F__law_draws [.fz (.int cell), .fz (.int j)] = .ok (.ow true (.lst (natD ds))) ∧ ds.length = n ∧ ∀ x ∈ ds, x < 1000 := by
  subst hj
  exact ap_draws cell n hn
theorem atI_stD (ws : List Str) (i : Int) (k : Nat) (hi : i = k) (h : k < ws.length) : atI (stD ws) i = some (.str ws[k]) := by
  subst hi
  rw [atI_nat]
  rw [List.getElem?_map, List.getElem?_eq_getElem h]; rfl
end LW
namespace LW
open PySem L2 DL
abbrev Wd := List Str
abbrev Rl := Str × List Str
def lexB : Wd → Wd → Bool
  | [], [] => false
  | [], _ :: _ => true
  | _ :: _, [] => false
  | x :: xs, y :: ys => if x = y then lexB xs ys else strLt x y
def slx (u v : Wd) : Bool := decide (u.length < v.length) || (decide (u.length = v.length) && lexB u v)
theorem strLt_irr (a : Str) : strLt a a = false := by
  rw [← Bool.not_eq_true, DS.strLt_iff]
  exact List.lt_irrefl _
theorem strLt_tot {a b : Str} (h : strLt a b = false) (h' : strLt b a = false) : a = b := by
  have e : ∀ {x y : Str}, strLt x y = false ↔ ¬ x.cps.toList < y.cps.toList := fun {x y} => by
    rw [← Bool.not_eq_true, DS.strLt_iff]
  exact DS.str_eq (DS.nlt_total (e.mp h) (e.mp h'))
theorem strLt_tr {a b c : Str} (h : strLt a b = true) (h' : strLt b c = true) : strLt a c = true := by
  rw [DS.strLt_iff] at *
  exact List.lt_trans h h'
theorem lexB_irr : ∀ u : Wd, lexB u u = false
  | [] => rfl
  | x :: xs => by unfold lexB; rw [if_pos rfl]; exact lexB_irr xs
theorem lexB_tot : ∀ {u v : Wd}, u.length = v.length → lexB u v = false → lexB v u = false → u = v
  | [], [], _, _, _ => rfl
  | [], _ :: _, h, _, _ => by cases h
  | _ :: _, [], h, _, _ => by cases h
  | x :: xs, y :: ys, h, h1, h2 => by
    unfold lexB at h1 h2
    by_cases e : x = y
    · subst e
      rw [if_pos rfl] at h1 h2
      rw [lexB_tot (by simpa using h) h1 h2]
    · rw [if_neg e] at h1
      rw [if_neg (Ne.symm e)] at h2
      exact absurd (strLt_tot h1 h2) e
theorem lexB_tr : ∀ {u v w : Wd}, lexB u v = true → lexB v w = true → lexB u w = true
  | [], [], _, h, _ => by cases h
  | [], _ :: _, [], _, h => by cases h
  | [], _ :: _, _ :: _, _, _ => rfl
  | _ :: _, [], _, h, _ => by cases h
  | _ :: _, _ :: _, [], _, h => by cases h
  | x :: xs, y :: ys, z :: zs, h1, h2 => by
    unfold lexB at *
    by_cases e : x = y
    · subst e
      rw [if_pos rfl] at h1
      by_cases f : x = z
      · subst f
        rw [if_pos rfl] at h2 ⊢
        exact lexB_tr h1 h2
      · rw [if_neg f] at h2 ⊢; exact h2
    · rw [if_neg e] at h1
      by_cases f : y = z
      · subst f; rw [if_neg e]; exact h1
      · rw [if_neg f] at h2
        have h3 := strLt_tr h1 h2
        rw [if_neg (fun g => by subst g; rw [strLt_asym h1] at h2; cases h2)]
        exact h3
theorem slx_iff {u v : Wd} : slx u v = true ↔ u.length < v.length ∨ (u.length = v.length ∧ lexB u v = true) := by
  unfold slx; simp
theorem slx_irr (u : Wd) : slx u u = false := by
  rw [← Bool.not_eq_true, slx_iff, lexB_irr]; simp
theorem slx_tr {u v w : Wd} (h : slx u v = true) (h' : slx v w = true) : slx u w = true := by
  rw [slx_iff] at *
  rcases h with h | ⟨h, k⟩
  · rcases h' with h' | ⟨h', _⟩ <;> exact .inl (by omega)
  · rcases h' with h' | ⟨h', k'⟩
    · exact .inl (by omega)
    · exact .inr ⟨by omega, lexB_tr k k'⟩
theorem slx_tot {u v : Wd} (h : slx u v = false) (h' : slx v u = false) : u = v := by
  rw [← Bool.not_eq_true, slx_iff] at h h'
  have e : u.length = v.length := by omega
  refine lexB_tot e ?_ ?_
  · rw [← Bool.not_eq_true]; exact fun z => h (.inr ⟨e, z⟩)
  · rw [← Bool.not_eq_true]; exact fun z => h' (.inr ⟨e.symm, z⟩)
def wle (u v : Wd) : Prop := slx v u = false
theorem wle_refl (u : Wd) : wle u u := slx_irr u
theorem wle_anti {u v : Wd} (h : wle u v) (h' : wle v u) : u = v := slx_tot h' h
theorem wle_tr {u v w : Wd} (h : wle u v) (h' : wle v w) : wle u w := by
  unfold wle at *
  cases e : slx w u with
  | false => rfl
  | true =>
    cases f : slx u v with
    | true => rw [slx_tr e f] at h'; cases h'
    | false => rw [slx_tot f h] at e; rw [e] at h'; cases h'
theorem wle_of {u v : Wd} (h : slx u v = true) : wle u v := by
  unfold wle
  cases e : slx v u with
  | false => rfl
  | true => have := slx_tr h e; rw [slx_irr] at this; cases this
theorem slx_wle {u v w : Wd} (h : slx u v = true) (h' : wle v w) : slx u w = true := by
  cases e : slx u w with
  | true => rfl
  | false =>
    have : wle w v := wle_tr e (wle_of h)
    have e2 := wle_anti h' this
    rw [e2] at h; rw [h] at e; cases e
theorem wle_len {u v : Wd} (h : wle u v) : u.length ≤ v.length := by
  unfold wle at h
  rw [← Bool.not_eq_true, slx_iff] at h
  omega
theorem lexB_cc (x y : Str) (a b : Wd) : lexB (x :: a) (y :: b) = if x = y then lexB a b else strLt x y := rfl
theorem lexB_app : ∀ {u u' : Wd} (v v' : Wd), u.length = u'.length → lexB (u ++ v) (u' ++ v') = if u = u' then lexB v v' else lexB u u'
  | [], [], v, v', _ => by simp
  | [], _ :: _, _, _, h => by cases h
  | _ :: _, [], _, _, h => by cases h
  | x :: xs, y :: ys, v, v', h => by
    rw [List.cons_append, List.cons_append, lexB_cc, lexB_cc]
    by_cases e : x = y
    · subst e
      rw [if_pos rfl, if_pos rfl, lexB_app v v' (by simpa using h)]
      by_cases f : xs = ys
      · subst f; simp
      · rw [if_neg f, if_neg (by simpa using f)]
    · rw [if_neg e, if_neg e, if_neg (by simp [e])]
theorem wle_iff {u v : Wd} : wle u v ↔ u.length < v.length ∨ (u.length = v.length ∧ lexB v u = false) := by
  unfold wle
  rw [← Bool.not_eq_true, slx_iff, ← Bool.not_eq_true]
  constructor
  · intro h
    by_cases e : u.length = v.length
    · exact .inr ⟨e, fun z => h (.inr ⟨e.symm, z⟩)⟩
    · exact .inl (by omega)
  · rintro (h | ⟨h, k⟩) (z | ⟨z, z'⟩)
    · omega
    · omega
    · omega
    · exact k z'
theorem wle_app {u u' v v' : Wd} (h : wle u u') (h' : wle v v') : wle (u ++ v) (u' ++ v') := by
  rw [wle_iff] at *
  rw [List.length_append, List.length_append]
  rcases h with h | ⟨h, k⟩
  · rcases h' with h' | ⟨h', _⟩ <;> exact .inl (by omega)
  · rcases h' with h' | ⟨h', k'⟩
    · exact .inl (by omega)
    · refine .inr ⟨by omega, ?_⟩
      rw [lexB_app v' v h.symm]
      split
      · exact k'
      · exact k
theorem wle_part {u v : Wd} (x : Wd) (h : wle u v) : wle u (x ++ v) ∧ wle u (v ++ x) := by
  have key : ∀ w : Wd, v.length < w.length ∨ w = v → wle u w := fun w hw => by
    rcases hw with hw | rfl
    · rw [wle_iff]; exact .inl (by have := wle_len h; omega)
    · exact h
  constructor
  · cases x with
    | nil => exact h
    | cons a r => exact key _ (.inl (by simp; omega))
  · cases x with
    | nil => rw [List.append_nil]; exact h
    | cons a r => exact key _ (.inl (by simp))

def leO (a b : Option Wd) : Prop := ∀ v, b = some v → ∃ u, a = some u ∧ wle u v
theorem leO_refl (a : Option Wd) : leO a a := fun v h => ⟨v, h, wle_refl v⟩
theorem leO_tr {a b c : Option Wd} (h : leO a b) (h' : leO b c) : leO a c := fun v e => by
  obtain ⟨u, e1, k1⟩ := h' v e
  obtain ⟨t, e2, k2⟩ := h u e1
  exact ⟨t, e2, wle_tr k2 k1⟩
theorem leO_none (a : Option Wd) : leO a none := fun v h => by cases h
theorem leO_anti {a b : Option Wd} (h : leO a b) (h' : leO b a) : a = b := by
  cases a with
  | none =>
    cases b with
    | none => rfl
    | some v => obtain ⟨u, e, _⟩ := h v rfl; cases e
  | some u =>
    cases b with
    | none => obtain ⟨v, e, _⟩ := h' u rfl; cases e
    | some v =>
      obtain ⟨a, e1, k1⟩ := h v rfl
      obtain ⟨b, e2, k2⟩ := h' u rfl
      cases e1; cases e2
      rw [wle_anti k1 k2]
def symW (f : Str → Option Wd) (x : Str) : Option Wd := if isSg x.cps.toList = true then some [x] else f x
def valW (f : Str → Option Wd) : List Str → Option Wd
  | [] => some []
  | x :: r => (symW f x).bind fun a => (valW f r).map (a ++ ·)
theorem valW_cons {f : Str → Option Wd} {x : Str} {r : List Str} {w : Wd} (h : valW f (x :: r) = some w) : ∃ a b, symW f x = some a ∧ valW f r = some b ∧ w = a ++ b := by
  unfold valW at h
  cases ha : symW f x with
  | none => rw [ha] at h; cases h
  | some a =>
    rw [ha, Option.bind_some] at h
    cases hb : valW f r with
    | none => rw [hb] at h; cases h
    | some b => rw [hb] at h; cases h; exact ⟨a, b, rfl, rfl, rfl⟩
theorem valW_of {f : Str → Option Wd} {x : Str} {r : List Str} {a b : Wd} (ha : symW f x = some a) (hb : valW f r = some b) : valW f (x :: r) = some (a ++ b) := by
  unfold valW; rw [ha, hb]; rfl
theorem symW_mono {f g : Str → Option Wd} (h : ∀ x, leO (f x) (g x)) (x : Str) : leO (symW f x) (symW g x) := by
  unfold symW
  split
  · exact leO_refl _
  · exact h x
theorem valW_mono {f g : Str → Option Wd} (h : ∀ x, leO (f x) (g x)) : ∀ r : List Str, leO (valW f r) (valW g r)
  | [] => leO_refl _
  | x :: r => fun v hv => by
    obtain ⟨a, b, ha, hb, rfl⟩ := valW_cons hv
    obtain ⟨a', ha', ka⟩ := symW_mono h x a ha
    obtain ⟨b', hb', kb⟩ := valW_mono h r b hb
    exact ⟨a' ++ b', valW_of ha' hb', wle_app ka kb⟩
theorem valW_part {f : Str → Option Wd} : ∀ {r : List Str} {w : Wd} {y : Str}, valW f r = some w → y ∈ r → ∃ a, symW f y = some a ∧ wle a w
  | x :: r, w, y, h, hy => by
    obtain ⟨a, b, ha, hb, rfl⟩ := valW_cons h
    rcases List.mem_cons.mp hy with rfl | hy
    · exact ⟨a, ha, (wle_part b (wle_refl a)).2⟩
    · obtain ⟨c, hc, k⟩ := valW_part hb hy
      exact ⟨c, hc, (wle_part a k).1⟩
theorem valW_congr {f g : Str → Option Wd} : ∀ {r : List Str}, (∀ y ∈ r, symW f y = symW g y) → valW f r = valW g r
  | [], _ => rfl
  | x :: r, h => by unfold valW; rw [h x List.mem_cons_self, valW_congr fun y hy => h y (.tail _ hy)]

def best (a b : Option Wd) : Option Wd := match a, b with
  | none, b => b
  | some u, none => some u
  | some u, some v => if slx v u = true then some v else some u
theorem best_l (a b : Option Wd) : leO (best a b) a := by
  cases a with
  | none => exact leO_none _
  | some u =>
    cases b with
    | none => exact leO_refl _
    | some v =>
      intro w hw; cases hw
      cases e : slx v u with
      | true => exact ⟨v, by simp [best, e], wle_of e⟩
      | false => exact ⟨u, by simp [best, e], wle_refl u⟩
theorem best_r (a b : Option Wd) : leO (best a b) b := by
  cases a with
  | none => exact leO_refl _
  | some u =>
    cases b with
    | none => exact leO_none _
    | some v =>
      intro w hw; cases hw
      cases e : slx v u with
      | true => exact ⟨v, by simp [best, e], wle_refl v⟩
      | false => exact ⟨u, by simp [best, e], e⟩
theorem best_or (a b : Option Wd) : best a b = a ∨ best a b = b := by
  cases a with
  | none => exact .inr rfl
  | some u =>
    cases b with
    | none => exact .inl rfl
    | some v =>
      unfold best
      dsimp only
      split
      · exact .inr rfl
      · exact .inl rfl
section
variable (rs : List Rl)
def Ln : Nat → Str → Option Wd
  | 0, _ => none
  | n + 1, X => rs.foldl (fun acc r => if r.1 = X then best acc (valW (Ln n) r.2) else acc) (Ln n X)
theorem fold_l {X : Str} {f : Str → Option Wd} : ∀ (l : List Rl) (a : Option Wd), leO (l.foldl (fun acc r => if r.1 = X then best acc (valW f r.2) else acc) a) a
  | [], a => leO_refl a
  | r :: l, a => by
    rw [List.foldl_cons]
    refine leO_tr (fold_l l _) ?_
    split
    · exact best_l _ _
    · exact leO_refl _
theorem fold_r {X : Str} {f : Str → Option Wd} : ∀ (l : List Rl) (a : Option Wd) (q : List Str), (X, q) ∈ l → leO (l.foldl (fun acc r => if r.1 = X then best acc (valW f r.2) else acc) a) (valW f q)
  | r :: l, a, q, h => by
    rw [List.foldl_cons]
    rcases List.mem_cons.mp h with rfl | h
    · refine leO_tr (fold_l l _) ?_
      rw [if_pos rfl]
      exact best_r _ _
    · exact fold_r l _ q h
theorem fold_or {X : Str} {f : Str → Option Wd} : ∀ (l : List Rl) (a : Option Wd), l.foldl (fun acc r => if r.1 = X then best acc (valW f r.2) else acc) a = a ∨ ∃ q, (X, q) ∈ l ∧ l.foldl (fun acc r => if r.1 = X then best acc (valW f r.2) else acc) a = valW f q
  | [], a => .inl rfl
  | r :: l, a => by
    rw [List.foldl_cons]
    have hb : (if r.1 = X then best a (valW f r.2) else a) = a ∨ (r.1 = X ∧ (if r.1 = X then best a (valW f r.2) else a) = valW f r.2) := by
      by_cases e : r.1 = X
      · rw [if_pos e]
        rcases best_or a (valW f r.2) with h | h
        · exact .inl h
        · exact .inr ⟨e, h⟩
      · rw [if_neg e]; exact .inl rfl
    rcases fold_or l (if r.1 = X then best a (valW f r.2) else a) with h | ⟨q, hq, h⟩
    · rcases hb with hb | ⟨e, hb⟩
      · exact .inl (h.trans hb)
      · exact .inr ⟨r.2, by rw [← e]; exact List.mem_cons_self, h.trans hb⟩
    · exact .inr ⟨q, .tail _ hq, h⟩
theorem Ln_succ (n : Nat) (X : Str) : leO (Ln rs (n + 1) X) (Ln rs n X) := fold_l rs _
theorem Ln_mono (X : Str) : ∀ {n m : Nat}, n ≤ m → leO (Ln rs m X) (Ln rs n X)
  | n, 0, h => by rw [Nat.le_zero.mp h]; exact leO_refl _
  | n, m + 1, h => by
    rcases Nat.eq_or_lt_of_le h with e | e
    · rw [e]; exact leO_refl _
    · exact leO_tr (Ln_succ rs m X) (Ln_mono X (Nat.le_of_lt_succ e))
theorem Ln_rule (n : Nat) {X : Str} {q : List Str} (h : (X, q) ∈ rs) : leO (Ln rs (n + 1) X) (valW (Ln rs n) q) := fold_r rs _ q h
theorem Ln_chg {n : Nat} {X : Str} (h : Ln rs (n + 1) X ≠ Ln rs n X) : ∃ w, Ln rs (n + 1) X = some w ∧ (∀ b, Ln rs n X = some b → slx w b = true) ∧ ∃ q, (X, q) ∈ rs ∧ valW (Ln rs n) q = some w ∧ (n = 0 ∨ ∃ y ∈ q, Ln rs n y ≠ Ln rs (n - 1) y ∧ ∃ a, Ln rs n y = some a ∧ wle a w) := by
  rcases fold_or (X := X) (f := Ln rs n) rs (Ln rs n X) with e | ⟨q, hq, e⟩
  · exact absurd e h
  · have e' : Ln rs (n + 1) X = valW (Ln rs n) q := e
    cases hw : valW (Ln rs n) q with
    | none =>
      exfalso
      rw [hw] at e'
      cases hb : Ln rs n X with
      | none => rw [e', hb] at h; exact h rfl
      | some b => obtain ⟨u, hu, _⟩ := Ln_succ rs n X b hb; rw [e'] at hu; cases hu
    | some w =>
      rw [hw] at e'
      refine ⟨w, e', fun b hb => ?_, q, hq, hw, ?_⟩
      · obtain ⟨u, hu, k⟩ := Ln_succ rs n X b hb
        rw [e'] at hu; cases hu
        cases s : slx w b with
        | true => rfl
        | false => exact absurd (by rw [e', hb, wle_anti k s]) h
      · cases n with
        | zero => exact .inl rfl
        | succ n =>
          right
          -- some part has changed
          by_cases all : ∀ y ∈ q, symW (Ln rs (n + 1)) y = symW (Ln rs n) y
          · exfalso
            have e2 := valW_congr all
            have h3 := Ln_rule rs n hq
            rw [← e2, hw] at h3
            have h4 := Ln_succ rs (n + 1) X
            rw [e'] at h4
            exact h (by rw [e']; exact leO_anti h4 h3)
          · have ⟨y, hy, hne⟩ : ∃ y, y ∈ q ∧ symW (Ln rs (n + 1)) y ≠ symW (Ln rs n) y := by
              have := Classical.not_forall.mp all
              obtain ⟨y, hy⟩ := this
              exact ⟨y, Classical.not_imp.mp hy⟩
            have hs : ¬ isSg y.cps.toList = true := fun z => hne (by unfold symW; rw [if_pos z, if_pos z])
            obtain ⟨a, ha, k⟩ := valW_part hw hy
            unfold symW at hne ha
            rw [if_neg hs] at ha
            rw [if_neg hs, if_neg hs] at hne
            exact ⟨y, hy, hne, a, ha, k⟩
theorem Ln_chain : ∀ (n : Nat) (X : Str) (w : Wd), Ln rs (n + 1) X ≠ Ln rs n X → Ln rs (n + 1) X = some w →
    ∃ l : List Str, l.length = n + 1 ∧ l.Nodup ∧ (∀ y ∈ l, y ∈ rs.map (·.1)) ∧ ∀ y ∈ l, ∃ m a, m ≤ n ∧ Ln rs (m + 1) y ≠ Ln rs m y ∧ Ln rs (m + 1) y = some a ∧ wle a w
  | 0, X, w, h, hw => by
    obtain ⟨w', e, _, q, hq, _⟩ := Ln_chg rs h
    refine ⟨[X], rfl, by simp, fun y hy => ?_, fun y hy => ?_⟩
    · rw [List.mem_singleton] at hy; subst hy; exact List.mem_map.mpr ⟨_, hq, rfl⟩
    · rw [List.mem_singleton] at hy; subst hy; exact ⟨0, w, Nat.le_refl _, h, hw, wle_refl w⟩
  | n + 1, X, w, h, hw => by
    obtain ⟨w', e, lt, q, hq, hv, hz⟩ := Ln_chg rs h
    rw [hw] at e; cases e
    rcases hz with hz | ⟨y, hy, hne, a, ha, k⟩
    · cases hz
    · obtain ⟨l, l1, l2, l3, l4⟩ := Ln_chain n y a hne ha
      refine ⟨X :: l, by simp [l1], List.nodup_cons.mpr ⟨fun hx => ?_, l2⟩, fun z hz => ?_, fun z hz => ?_⟩
      · obtain ⟨m, b, hm, hc, hb, kb⟩ := l4 X hx
        obtain ⟨c, hc', kc⟩ := Ln_mono rs X (show m + 1 ≤ n + 1 by omega) b hb
        have s := lt c hc'
        have t := slx_wle s kc
        have u : wle b w := wle_tr kb k
        unfold wle at u
        rw [t] at u; cases u
      · rcases List.mem_cons.mp hz with rfl | hz
        · exact List.mem_map.mpr ⟨_, hq, rfl⟩
        · exact l3 z hz
      · rcases List.mem_cons.mp hz with rfl | hz
        · exact ⟨n + 1, w, Nat.le_refl _, h, hw, wle_refl w⟩
        · obtain ⟨m, b, hm, hc, hb, kb⟩ := l4 z hz
          exact ⟨m, b, by omega, hc, hb, wle_tr kb k⟩
end
theorem nodup_len {α : Type} [DecidableEq α] : ∀ {l m : List α}, l.Nodup → (∀ x ∈ l, x ∈ m) → l.length ≤ m.length
  | [], _, _, _ => Nat.zero_le _
  | x :: l, m, h, hs => by
    obtain ⟨h1, h2⟩ := List.nodup_cons.mp h
    have hx : x ∈ m := hs x List.mem_cons_self
    have := nodup_len (l := l) (m := m.erase x) h2 fun y hy => (List.mem_erase_of_ne (fun (e : y = x) => h1 (by rw [← e]; exact hy))).mpr (hs y (.tail _ hy))
    rw [List.length_erase_of_mem hx] at this
    have hp : 0 < m.length := List.length_pos_of_mem hx
    rw [List.length_cons]
    omega
section
variable {rs : List Rl} {NL : List Str}
theorem Ln_fix (hn : ∀ r ∈ rs, r.1 ∈ NL) {n : Nat} (h : NL.length ≤ n) (X : Str) : Ln rs (n + 1) X = Ln rs n X := by
  by_cases e : Ln rs (n + 1) X = Ln rs n X
  · exact e
  · exfalso
    obtain ⟨w, hw, _⟩ := Ln_chg rs e
    obtain ⟨l, l1, l2, l3, _⟩ := Ln_chain rs n X w e hw
    have := nodup_len l2 (m := NL) fun y hy => by
      obtain ⟨r, hr, e⟩ := List.mem_map.mp (l3 y hy)
      rw [← e]; exact hn r hr
    omega
theorem Ln_all (hn : ∀ r ∈ rs, r.1 ∈ NL) {n : Nat} (h : NL.length ≤ n) (X : Str) : Ln rs n X = Ln rs NL.length X := by
  induction n with
  | zero => rw [Nat.le_zero.mp h]
  | succ n ih =>
    rcases Nat.eq_or_lt_of_le h with e | e
    · rw [← e]
    · rw [Ln_fix hn (Nat.le_of_lt_succ e) X, ih (Nat.le_of_lt_succ e)]
theorem Ln_len {b : Nat} (hb : ∀ r ∈ rs, r.2.length ≤ b) (b1 : 1 ≤ b) : ∀ (n : Nat) (X : Str) (w : Wd), Ln rs n X = some w → w.length ≤ b ^ n
  | 0, X, w, h => by cases h
  | n + 1, X, w, h => by
    have ih := Ln_len hb b1 n
    have hp : b ^ n ≤ b ^ (n + 1) := Nat.pow_le_pow_right b1 (Nat.le_succ n)
    have h1 : 1 ≤ b ^ n := Nat.pow_pos (show 0 < b from b1)
    rcases fold_or (X := X) (f := Ln rs n) rs (Ln rs n X) with e | ⟨q, hq, e⟩
    · exact Nat.le_trans (ih X w (by rw [← e]; exact h)) hp
    · have e' : valW (Ln rs n) q = some w := by rw [← e]; exact h
      have key : ∀ (q : List Str) (w : Wd), valW (Ln rs n) q = some w → w.length ≤ q.length * b ^ n := by
        intro q
        induction q with
        | nil => intro w h; cases h; simp
        | cons x r ihq =>
          intro w h
          obtain ⟨u, v, hu, hv, rfl⟩ := valW_cons h
          have h2 := ihq v hv
          have h3 : u.length ≤ b ^ n := by
            unfold symW at hu
            split at hu
            · cases hu; simpa using h1
            · exact ih x u hu
          rw [List.length_append, List.length_cons, Nat.succ_mul]
          omega
      have := key q w e'
      have h2 := hb _ hq
      calc w.length ≤ q.length * b ^ n := this
        _ ≤ b * b ^ n := Nat.mul_le_mul_right _ h2
        _ = b ^ (n + 1) := by rw [Nat.pow_succ, Nat.mul_comm]
end
end LW
namespace LW
open PySem L2 DL
abbrev As := List (Str × Wd)
def getA {α : Type} (f : List (Str × α)) (x : Str) : Option α := (f.find? fun p => decide (p.1 = x)).map (·.2)
def putA {α : Type} (f : List (Str × α)) (x : Str) (w : α) : List (Str × α) := if (f.any fun p => decide (p.1 = x)) = true then f.map (fun p => if p.1 = x then (p.1, w) else p) else f ++ [(x, w)]
section
variable {α : Type}
theorem getA_cons (p : Str × α) (f : List (Str × α)) (x : Str) : getA (p :: f) x = if p.1 = x then some p.2 else getA f x := by
  unfold getA
  rw [List.find?_cons]
  by_cases e : p.1 = x <;> simp [e]
theorem getA_any (f : List (Str × α)) (x : Str) : (f.any fun p => decide (p.1 = x)) = (getA f x).isSome := by
  induction f with
  | nil => rfl
  | cons p f ih =>
    rw [List.any_cons, getA_cons, ih]
    by_cases e : p.1 = x <;> simp [e]
theorem getA_mem {f : List (Str × α)} {x : Str} {w : α} (h : getA f x = some w) : (x, w) ∈ f := by
  induction f with
  | nil => cases h
  | cons p f ih =>
    rw [getA_cons] at h
    by_cases e : p.1 = x
    · rw [if_pos e] at h
      cases h; subst e; exact List.mem_cons_self
    · rw [if_neg e] at h; exact .tail _ (ih h)
theorem getA_none {f : List (Str × α)} {x : Str} : getA f x = none ↔ x ∉ f.map (·.1) := by
  induction f with
  | nil => simp [getA]
  | cons p f ih =>
    rw [getA_cons]
    by_cases e : p.1 = x
    · subst e; simp
    · rw [if_neg e, ih]
      simp [Ne.symm e]
theorem getA_map (f : List (Str × α)) (x y : Str) (w : α) : getA (f.map fun p => if p.1 = x then (p.1, w) else p) y = if y = x then (getA f y).map fun _ => w else getA f y := by
  induction f with
  | nil => simp [getA]
  | cons p f ih =>
    rw [List.map_cons, getA_cons, getA_cons, ih]
    by_cases e : p.1 = x
    · subst e
      by_cases g : p.1 = y
      · subst g; simp
      · simp [g]
    · by_cases g : p.1 = y
      · subst g; simp [e]
      · simp [e, g]
theorem getA_app (f : List (Str × α)) (x y : Str) (w : α) (h : getA f x = none) : getA (f ++ [(x, w)]) y = if y = x then some w else getA f y := by
  induction f with
  | nil =>
    rw [List.nil_append, getA_cons]
    by_cases e : x = y
    · subst e; simp
    · simp [e, Ne.symm e]
  | cons p f ih =>
    rw [getA_cons] at h
    by_cases e : p.1 = x
    · rw [if_pos e] at h; cases h
    · rw [if_neg e] at h
      rw [List.cons_append, getA_cons, getA_cons, ih h]
      by_cases g : p.1 = y
      · subst g; simp [e]
      · simp [g]
theorem getA_put (f : List (Str × α)) (x y : Str) (w : α) : getA (putA f x w) y = if y = x then some w else getA f y := by
  unfold putA
  rw [getA_any]
  cases h : getA f x with
  | none => rw [if_neg (by simp), getA_app f x y w h]
  | some v =>
    rw [if_pos (show (some v).isSome = true from rfl), getA_map]
    by_cases e : y = x
    · subst e; rw [if_pos rfl, if_pos rfl, h]; rfl
    · rw [if_neg e, if_neg e]
theorem putA_keys (f : List (Str × α)) (x : Str) (w : α) : (putA f x w).map (·.1) = if x ∈ f.map (·.1) then f.map (·.1) else f.map (·.1) ++ [x] := by
  unfold putA
  rw [getA_any]
  cases h : getA f x with
  | none =>
    rw [if_neg (by simp), if_neg (getA_none.mp h)]
    simp
  | some v =>
    have hx : x ∈ f.map (·.1) := List.mem_map.mpr ⟨_, getA_mem h, rfl⟩
    rw [if_pos (show (some v).isSome = true from rfl), if_pos hx, List.map_map]
    apply List.map_congr_left
    intro p _
    show (if p.1 = x then (p.1, w) else p).1 = p.1
    split <;> rfl
end
def better (f : As) (x : Str) (w : Wd) : Bool := match getA f x with
  | none => true
  | some v => slx w v
def stepF (s : As × Bool) (r : Rl) : As × Bool := match valW (getA s.1) r.2 with
  | none => s
  | some w => if better s.1 r.1 w = true then (putA s.1 r.1 w, true) else s
def passF (rs : List Rl) (f : As) : As × Bool := rs.foldl stepF (f, false)
def iterF (rs : List Rl) : Nat → As
  | 0 => []
  | n + 1 => (passF rs (iterF rs n)).1
section
variable {rs : List Rl}
theorem step_le (s : As × Bool) (r : Rl) (x : Str) : leO (getA (stepF s r).1 x) (getA s.1 x) := by
  unfold stepF
  split
  · exact leO_refl _
  · rename_i w hw
    split
    · rename_i hb
      show leO (getA (putA s.1 r.1 w) x) _
      rw [getA_put]
      split
      · rename_i e
        subst e
        intro v hv
        unfold better at hb
        rw [hv] at hb
        exact ⟨w, rfl, wle_of hb⟩
      · exact leO_refl _
    · exact leO_refl _
theorem step_rule (s : As × Bool) (r : Rl) : leO (getA (stepF s r).1 r.1) (valW (getA s.1) r.2) := by
  unfold stepF
  split
  · rename_i hw; rw [hw]; exact leO_none _
  · rename_i w hw
    rw [hw]
    split
    · show leO (getA (putA s.1 r.1 w) r.1) _
      rw [getA_put, if_pos rfl]
      exact leO_refl _
    · rename_i hb
      intro v hv
      cases hv
      unfold better at hb
      cases hg : getA s.1 r.1 with
      | none => rw [hg] at hb; exact absurd rfl hb
      | some u => rw [hg] at hb; exact ⟨u, rfl, by unfold wle; simpa using hb⟩
theorem foldF_le (x : Str) : ∀ (l : List Rl) (s : As × Bool), leO (getA (l.foldl stepF s).1 x) (getA s.1 x)
  | [], s => leO_refl _
  | r :: l, s => by rw [List.foldl_cons]; exact leO_tr (foldF_le x l _) (step_le s r x)
theorem foldF_rule {X : Str} {q : List Str} {g : Str → Option Wd} : ∀ (l : List Rl) (s : As × Bool), (∀ x, leO (getA s.1 x) (g x)) → (X, q) ∈ l → leO (getA (l.foldl stepF s).1 X) (valW g q)
  | r :: l, s, h, hm => by
    rw [List.foldl_cons]
    rcases List.mem_cons.mp hm with rfl | hm
    · exact leO_tr (foldF_le X l _) (leO_tr (step_rule s (X, q)) (valW_mono h q))
    · exact foldF_rule l _ (fun x => leO_tr (step_le s r x) (h x)) hm
theorem iter_le : ∀ (n : Nat) (X : Str), leO (getA (iterF rs n) X) (Ln rs n X)
  | 0, X => leO_none _
  | n + 1, X => by
    have ih := iter_le n
    rcases fold_or (X := X) (f := Ln rs n) rs (Ln rs n X) with e | ⟨q, hq, e⟩
    · rw [show Ln rs (n + 1) X = Ln rs n X from e]
      exact leO_tr (foldF_le X rs _) (ih X)
    · rw [show Ln rs (n + 1) X = valW (Ln rs n) q from e]
      exact foldF_rule rs _ ih hq
variable {NL : List Str}
theorem fix_rule (hn : ∀ r ∈ rs, r.1 ∈ NL) {X : Str} {q : List Str} (h : (X, q) ∈ rs) : leO (Ln rs NL.length X) (valW (Ln rs NL.length) q) := by
  have := Ln_rule rs NL.length h
  rw [Ln_fix hn (Nat.le_refl _)] at this
  exact this
theorem step_sound (hn : ∀ r ∈ rs, r.1 ∈ NL) {s : As × Bool} {r : Rl} (hr : r ∈ rs) (h : ∀ x, leO (Ln rs NL.length x) (getA s.1 x)) (x : Str) : leO (Ln rs NL.length x) (getA (stepF s r).1 x) := by
  unfold stepF
  split
  · exact h x
  · rename_i w hw
    split
    · show leO _ (getA (putA s.1 r.1 w) x)
      rw [getA_put]
      split
      · rename_i e
        subst e
        rw [← hw]
        exact leO_tr (fix_rule hn (show (r.1, r.2) ∈ rs from hr)) (valW_mono h r.2)
      · exact h x
    · exact h x
theorem fold_sound (hn : ∀ r ∈ rs, r.1 ∈ NL) : ∀ (l : List Rl) (s : As × Bool), (∀ r ∈ l, r ∈ rs) → (∀ x, leO (Ln rs NL.length x) (getA s.1 x)) → ∀ x, leO (Ln rs NL.length x) (getA (l.foldl stepF s).1 x)
  | [], s, _, h => h
  | r :: l, s, hl, h => by
    rw [List.foldl_cons]
    exact fold_sound hn l _ (fun q hq => hl q (.tail _ hq)) (step_sound hn (hl r List.mem_cons_self) h)
theorem iter_sound (hn : ∀ r ∈ rs, r.1 ∈ NL) : ∀ (n : Nat) (x : Str), leO (Ln rs NL.length x) (getA (iterF rs n) x)
  | 0, x => fun v hv => by cases hv
  | n + 1, x => fold_sound hn rs _ (fun _ h => h) (iter_sound hn n) x
theorem iter_eq (hn : ∀ r ∈ rs, r.1 ∈ NL) {n : Nat} (h : NL.length ≤ n) (x : Str) : getA (iterF rs n) x = Ln rs NL.length x := by
  have a := iter_le (rs := rs) n x
  rw [Ln_all hn h] at a
  exact leO_anti a (iter_sound hn n x)
theorem step_still (hn : ∀ r ∈ rs, r.1 ∈ NL) {s : As × Bool} {r : Rl} (hr : r ∈ rs) (h : ∀ x, getA s.1 x = Ln rs NL.length x) : stepF s r = s := by
  have e : getA s.1 = Ln rs NL.length := funext h
  have k := fix_rule hn (show (r.1, r.2) ∈ rs from hr)
  unfold stepF
  rw [e]
  cases hw : valW (Ln rs NL.length) r.2 with
  | none => rfl
  | some w =>
    obtain ⟨u, hu, ku⟩ := k w hw
    have : better s.1 r.1 w = false := by
      unfold better
      rw [h, hu]
      exact ku
    simp [this]
theorem pass_still (hn : ∀ r ∈ rs, r.1 ∈ NL) {f : As} (h : ∀ x, getA f x = Ln rs NL.length x) : passF rs f = (f, false) := by
  have key : ∀ l : List Rl, (∀ r ∈ l, r ∈ rs) → l.foldl stepF (f, false) = (f, false) := by
    intro l
    induction l with
    | nil => intro _; rfl
    | cons r l ih =>
      intro hl
      rw [List.foldl_cons, step_still hn (hl r List.mem_cons_self) h]
      exact ih fun q hq => hl q (.tail _ hq)
  exact key rs fun _ h => h
theorem fold_flag : ∀ (l : List Rl) (s : As × Bool), (l.foldl stepF s).2 = false → l.foldl stepF s = s
  | [], s, _ => rfl
  | r :: l, s, h => by
    rw [List.foldl_cons] at h ⊢
    have e := fold_flag l _ h
    rw [e] at h ⊢
    unfold stepF at h ⊢
    split at h
    · rfl
    · split at h
      · cases h
      · rename_i hb; rw [if_neg hb]
theorem iter_stop {n : Nat} (h : (passF rs (iterF rs n)).2 = false) : ∀ m, n ≤ m → iterF rs m = iterF rs n := by
  have e : (passF rs (iterF rs n)).1 = iterF rs n := by
    have := fold_flag rs (iterF rs n, false) h
    exact congrArg Prod.fst this
  intro m
  induction m with
  | zero => intro hm; rw [Nat.le_zero.mp hm]
  | succ m ih =>
    intro hm
    rcases Nat.eq_or_lt_of_le hm with q | q
    · rw [← q]
    · show (passF rs (iterF rs m)).1 = _
      rw [ih (Nat.le_of_lt_succ q), e]
def least (rs : List Rl) : As := iterF rs rs.length
theorem least_of (hn : ∀ r ∈ rs, r.1 ∈ NL) {n m : Nat} (h : NL.length ≤ n) (k : NL.length ≤ m) : iterF rs n = iterF rs m := by
  have f1 := pass_still hn (iter_eq hn (Nat.le_refl NL.length))
  have s1 := iter_stop (n := NL.length) (by rw [f1])
  rw [s1 n h, s1 m k]
theorem least_lhs {n : Nat} (h : rs.length ≤ n) : iterF rs n = least rs := by
  have hn : ∀ r ∈ rs, r.1 ∈ rs.map (·.1) := fun r hr => List.mem_map.mpr ⟨r, hr, rfl⟩
  exact least_of hn (by rw [List.length_map]; exact h) (by rw [List.length_map]; exact Nat.le_refl _)
theorem least_stop {n : Nat} (h : (passF rs (iterF rs n)).2 = false) : iterF rs n = least rs := by
  rcases Nat.le_total rs.length n with k | k
  · exact least_lhs k
  · exact (iter_stop h _ k).symm
theorem least_end {n : Nat} (h : rs.length ≤ n) : (passF rs (iterF rs n)).2 = false := by
  have hn : ∀ r ∈ rs, r.1 ∈ rs.map (·.1) := fun r hr => List.mem_map.mpr ⟨r, hr, rfl⟩
  have f1 := pass_still hn (iter_eq hn (n := n) (by rw [List.length_map]; exact h))
  rw [f1]
structure LenOk (rs : List Rl) (b : Nat) (f : As) : Prop where
  nd : (f.map (·.1)).Nodup
  sub : ∀ x ∈ f.map (·.1), x ∈ rs.map (·.1)
  len : ∀ (j : Nat) (p : Str × Wd), f[j]? = some p → p.2.length ≤ b ^ (j + 1)
theorem LenOk.get {b : Nat} {f : As} (h : LenOk rs b f) (b1 : 1 ≤ b) {x : Str} {w : Wd} (e : getA f x = some w) : w.length ≤ b ^ f.length := by
  obtain ⟨j, hj⟩ := List.mem_iff_getElem?.mp (getA_mem e)
  have := h.len j _ hj
  have hl : j < f.length := (List.getElem?_eq_some_iff.mp hj).1
  exact Nat.le_trans this (Nat.pow_le_pow_right b1 hl)
theorem valW_len {f : Str → Option Wd} {B : Nat} (B1 : 1 ≤ B) (h : ∀ x w, f x = some w → w.length ≤ B) : ∀ (q : List Str) (w : Wd), valW f q = some w → w.length ≤ q.length * B
  | [], w, e => by cases e; simp
  | x :: r, w, e => by
    obtain ⟨u, v, hu, hv, rfl⟩ := valW_cons e
    have h2 := valW_len B1 h r v hv
    have h3 : u.length ≤ B := by
      unfold symW at hu
      split at hu
      · cases hu; simpa using B1
      · exact h x u hu
    rw [List.length_append, List.length_cons, Nat.succ_mul]
    omega
theorem LenOk.put {b : Nat} {f : As} (h : LenOk rs b f) (b1 : 1 ≤ b) {r : Rl} (hr : r ∈ rs) (hb : r.2.length ≤ b) {w : Wd} (hw : valW (getA f) r.2 = some w) (hbt : better f r.1 w = true) : LenOk rs b (putA f r.1 w) := by
  have hB : 1 ≤ b ^ f.length := Nat.pow_pos b1
  have hwl : w.length ≤ b ^ (f.length + 1) := by
    have := valW_len hB (fun x v e => h.get b1 e) r.2 w hw
    calc w.length ≤ r.2.length * b ^ f.length := this
      _ ≤ b * b ^ f.length := Nat.mul_le_mul_right _ hb
      _ = b ^ (f.length + 1) := by rw [Nat.pow_succ, Nat.mul_comm]
  have hk := putA_keys f r.1 w
  refine ⟨?_, ?_, ?_⟩
  · rw [hk]
    split
    · exact h.nd
    · rename_i hx
      exact List.nodup_append.mpr ⟨h.nd, by simp, fun a ha c hc => by rw [List.mem_singleton] at hc; subst hc; exact fun e => hx (by rw [← e]; exact ha)⟩
  · intro x hx
    rw [hk] at hx
    split at hx
    · exact h.sub x hx
    · rcases List.mem_append.mp hx with hx | hx
      · exact h.sub x hx
      · rw [List.mem_singleton] at hx; subst hx; exact List.mem_map.mpr ⟨r, hr, rfl⟩
  · intro j p hp
    unfold putA at hp
    rw [getA_any] at hp
    cases hg : getA f r.1 with
    | none =>
      rw [hg, if_neg (by simp)] at hp
      rw [List.getElem?_append] at hp
      split at hp
      · exact h.len j p hp
      · rename_i hj
        have ej : j - f.length = 0 := by
          have := (List.getElem?_eq_some_iff.mp hp).1
          simp at this; omega
        rw [ej] at hp
        have e2 : j = f.length := by omega
        simp at hp
        subst hp; subst e2
        exact hwl
    | some v =>
      rw [hg, if_pos (show (some v).isSome = true from rfl), List.getElem?_map] at hp
      cases hj : f[j]? with
      | none => rw [hj] at hp; cases hp
      | some q =>
        rw [hj] at hp
        have e : (if q.1 = r.1 then (q.1, w) else q) = p := by injection hp
        by_cases hq : q.1 = r.1
        · rw [if_pos hq] at e
          subst e
          have hqv : q.2 = v := by
            -- keys are told once
            have hm : (q.1, q.2) ∈ f := List.mem_of_getElem? hj
            have : ∀ {f : As}, (f.map (·.1)).Nodup → ∀ {x : Str} {a : Wd}, (x, a) ∈ f → getA f x = some a := by
              intro f
              induction f with
              | nil => intro _ x a h; cases h
              | cons p f ih =>
                intro nd x a hm
                rw [List.map_cons] at nd
                obtain ⟨n1, n2⟩ := List.nodup_cons.mp nd
                rw [getA_cons]
                rcases List.mem_cons.mp hm with hm | hm
                · rw [← hm]; simp
                · have hx : x ∈ f.map (·.1) := List.mem_map.mpr ⟨_, hm, rfl⟩
                  rw [if_neg (fun e => n1 (by rw [e]; exact hx))]
                  exact ih n2 hm
            have h3 := this h.nd hm
            rw [hq, hg] at h3
            exact (Option.some.inj h3).symm
          have h4 := h.len j q hj
          rw [hqv] at h4
          unfold better at hbt
          rw [hg] at hbt
          exact Nat.le_trans (wle_len (wle_of hbt)) h4
        · rw [if_neg hq] at e
          subst e
          exact h.len j q hj
theorem LenOk.step {b : Nat} {s : As × Bool} (h : LenOk rs b s.1) (b1 : 1 ≤ b) {r : Rl} (hr : r ∈ rs) (hb : r.2.length ≤ b) : LenOk rs b (stepF s r).1 := by
  unfold stepF
  split
  · exact h
  · rename_i w hw
    split
    · rename_i hbt; exact h.put b1 hr hb hw hbt
    · exact h
theorem LenOk.card {b : Nat} {f : As} (h : LenOk rs b f) {NL : List Str} (hn : ∀ r ∈ rs, r.1 ∈ NL) : f.length ≤ NL.length := by
  have := nodup_len h.nd (m := NL) fun x hx => by
    obtain ⟨r, hr, e⟩ := List.mem_map.mp (h.sub x hx)
    rw [← e]; exact hn r hr
  rwa [List.length_map] at this
theorem LenOk.nil {b : Nat} : LenOk rs b [] := ⟨by simp, by simp, fun j p e => by simp at e⟩
theorem LenOk.fold {b : Nat} (b1 : 1 ≤ b) : ∀ (l : List Rl) (s : As × Bool), (∀ r ∈ l, r ∈ rs ∧ r.2.length ≤ b) → LenOk rs b s.1 → LenOk rs b (l.foldl stepF s).1
  | [], s, _, h => h
  | r :: l, s, hl, h => by
    rw [List.foldl_cons]
    have := hl r List.mem_cons_self
    exact LenOk.fold b1 l _ (fun q hq => hl q (.tail _ hq)) (h.step b1 this.1 this.2)
theorem LenOk.iter {b : Nat} (b1 : 1 ≤ b) (hb : ∀ r ∈ rs, r.2.length ≤ b) : ∀ n, LenOk rs b (iterF rs n)
  | 0 => .nil
  | n + 1 => LenOk.fold b1 rs _ (fun r hr => ⟨hr, hb r hr⟩) (LenOk.iter b1 hb n)
end
end LW
namespace LW
open PySem L2 DL
theorem toPys_st : ∀ u : Wd, toPys (stD u) = u.map PyData.str
  | [] => rfl
  | x :: u => by
    show toPy (.str x) :: toPys (stD u) = _
    rw [toPys_st u]; rfl
theorem alike_st : ∀ u v : Wd, PySem.W.alikeAll (u.map PyData.str) (v.map PyData.str) = true
  | [], v => by cases v <;> rfl
  | _ :: _, [] => rfl
  | x :: u, y :: v => by
    show (PySem.W.alike (.str x) (.str y) && PySem.W.alikeAll (u.map PyData.str) (v.map PyData.str)) = true
    rw [alike_st u v]; rfl
theorem eqv_str (x y : Str) : PyData.eqv (.str x) (.str y) = decide (x = y) := by
  show (x == y) = _
  by_cases h : x = y
  · subst h; simp
  · simp [h]
theorem lex_st : ∀ u v : Wd, PyProof.Rows.lexLt PyProof.Rows.itemOrd (PySem.W.keyToksAll (u.map PyData.str)) (PySem.W.keyToksAll (v.map PyData.str)) = lexB u v
  | [], [] => by
    show PyProof.Rows.lexLt PyProof.Rows.itemOrd [.inl 0] [.inl 0] = false
    rw [PySem.W.lex_one]; rfl
  | [], y :: v => by
    rw [List.map_cons, PySem.W.toks_all_cons]
    show PyProof.Rows.lexLt PyProof.Rows.itemOrd (.inl 0 :: []) (.inl 1 :: _) = true
    rw [PySem.W.lex_atom (by simp), PySem.W.lex_one]; rfl
  | x :: u, [] => by
    rw [List.map_cons, PySem.W.toks_all_cons]
    show PyProof.Rows.lexLt PyProof.Rows.itemOrd (.inl 1 :: _) (.inl 0 :: []) = false
    rw [PySem.W.lex_atom (by simp), PySem.W.lex_one]; rfl
  | x :: u, y :: v => by
    rw [List.map_cons, List.map_cons, lexB_cc]
    by_cases h : x = y
    · subst h
      rw [if_pos rfl, PySem.W.dataLt_all_yes rfl (by rw [eqv_str]; simp), lex_st u v]
    · rw [if_neg h, PySem.W.dataLt_all_no rfl (by rw [eqv_str]; simp [h]), PySem.W.dataLt_str]; rfl
def okS (u : Wd) : Prop := ∀ x ∈ u, PyData.strOk x = true
theorem lay_st : ∀ {u : Wd}, okS u → PyData.canLayAll0 (u.map PyData.str) = true
  | [], _ => rfl
  | x :: u, h => by
    show (PyData.canLay0 (.str x) && PyData.canLayAll0 (u.map PyData.str)) = true
    rw [lay_st fun y hy => h y (.tail _ hy)]
    have := h x List.mem_cons_self
    simp [PyData.canLay0, this]
theorem depth_st : ∀ u : Wd, PyData.depthAll (u.map PyData.str) ≤ 1
  | [] => by simp [PyData.depthAll]
  | x :: u => by
    have := depth_st u
    simp only [List.map_cons, PyData.depthAll, PyData.depth]
    omega
theorem lt_lst {u v : Wd} (hu : okS u) (hv : okS v) (n m : Bool) : opLt (.fz (.lst (stD u))) (.fz (.lst (stD v))) = .ok (.fz (.bl (lexB u v))) := by
  have h : ltDat (.lst (stD u)) (.lst (stD v)) = some (lexB u v) := by
    unfold ltDat
    have e1 : toPy (.lst (stD u)) = .list (u.map PyData.str) := by show PyData.list (toPys (stD u)) = _; rw [toPys_st]
    have e2 : toPy (.lst (stD v)) = .list (v.map PyData.str) := by show PyData.list (toPys (stD v)) = _; rw [toPys_st]
    rw [e1, e2, if_pos, PySem.W.dataLt_list, lex_st]
    refine ⟨alike_st u v, rfl, lay_st hu, lay_st hv, ?_⟩
    have := depth_st u
    simp only [PyData.depth]; omega
  show ((orStuck (ltDat (.lst (stD u)) (.lst (stD v))) >>= fun k => .ok (.fz (.bl k))) : Rz EV) = _
  rw [h]; rfl
theorem lt_ord {u v : Wd} (hu : okS u) (hv : okS v) : opLt (.fz (.tup [.int u.length, .tup (stD u)])) (.fz (.tup [.int v.length, .tup (stD v)])) = .ok (.fz (.bl (slx u v))) := by
  have h : ltDat (.tup [.int u.length, .tup (stD u)]) (.tup [.int v.length, .tup (stD v)]) = some (slx u v) := by
    have e : ∀ w : Wd, toPy (.tup [.int w.length, .tup (stD w)]) = .tuple [.int w.length, .tuple (w.map PyData.str)] := fun w => by
      show PyData.tuple [.int w.length, .tuple (toPys (stD w))] = _
      rw [toPys_st]
    have al : PySem.W.alike (.tuple (u.map PyData.str)) (.tuple (v.map PyData.str)) = true := alike_st u v
    unfold ltDat
    rw [e, e, if_pos]
    · rw [PySem.W.dataLt_tuple]
      congr 1
      by_cases hl : u.length = v.length
      · rw [PySem.W.dataLt_all_yes rfl (by show ((u.length : Int) == (v.length : Int)) = true; rw [hl]; simp)]
        cases hq : PyData.eqv (.tuple (u.map PyData.str)) (.tuple (v.map PyData.str)) with
        | true =>
          rw [PySem.W.dataLt_all_yes al hq]
          have q : ∀ {u v : Wd}, PyData.eqvAll (u.map PyData.str) (v.map PyData.str) = true → u = v := by
            intro u
            induction u with
            | nil => intro v h; cases v with
              | nil => rfl
              | cons y v => cases h
            | cons x u ih =>
              intro v h
              cases v with
              | nil => cases h
              | cons y v =>
                rw [List.map_cons, List.map_cons, PySem.W.eqv_all_cons, eqv_str, Bool.and_eq_true, decide_eq_true_eq] at h
                rw [h.1, ih h.2]
          have e2 : u = v := q hq
          subst e2
          rw [slx_irr]
          show PyProof.Rows.lexLt PyProof.Rows.itemOrd [.inl 0] [.inl 0] = false
          rw [PySem.W.lex_one]; rfl
        | false =>
          rw [PySem.W.dataLt_all_no al hq, PySem.W.dataLt_tuple, lex_st]
          unfold slx
          simp [hl]
      · rw [PySem.W.dataLt_all_no rfl (by
          show ((u.length : Int) == (v.length : Int)) = false
          rw [beq_eq_false_iff_ne]; omega), PySem.W.dataLt_int]
        unfold slx
        by_cases h : u.length < v.length
        · have h' : (u.length : Int) < (v.length : Int) := by omega
          simp [h, h']
        · have h' : ¬ (u.length : Int) < (v.length : Int) := by omega
          simp [h, h', hl]
    · refine ⟨?_, rfl, ?_, ?_, ?_⟩
      · show (PySem.W.alike (.int u.length) (.int v.length) && (PySem.W.alike (.tuple (u.map PyData.str)) (.tuple (v.map PyData.str)) && PySem.W.alikeAll [] [])) = true
        rw [al]; rfl
      · show (PyData.canLay0 (.int u.length) && (PyData.canLayAll0 (u.map PyData.str) && PyData.canLayAll0 [])) = true
        rw [lay_st hu]; rfl
      · show (PyData.canLay0 (.int v.length) && (PyData.canLayAll0 (v.map PyData.str) && PyData.canLayAll0 [])) = true
        rw [lay_st hv]; rfl
      · have := depth_st u
        simp only [PyData.depth, PyData.depthAll]; omega
  show ((orStuck (ltDat (.tup [.int u.length, .tup (stD u)]) (.tup [.int v.length, .tup (stD v)])) >>= fun k => .ok (.fz (.bl k))) : Rz EV) = _
  rw [h]; rfl
def okW (x : Str) : Prop := PyData.strOk x = true ∧ x.cps.toList.length ≤ 16777216
abbrev sgB (x : Str) : Bool := isSg x.cps.toList
abbrev nmB (x : Str) : Bool := isNm x.cps.toList
theorem ev_is_name' (w : Str) (h : w.cps.toList.length ≤ 16777216) : F_is_name [.str w] = .ok (.fz (.bl (nmB w))) := by
  have := ev_is_name w.cps.toList h
  rwa [DL.mk_of] at this
theorem ap_sign {x : Str} (h : okW x) : appF F_is_sign [.fz (.str x)] = .ok (.fz (.bl (sgB x))) := appF_fz (evs := [.fz (.str x)]) (ev_is_sign' x h.2) rfl
theorem ap_name {x : Str} (h : okW x) : appF F_is_name [.fz (.str x)] = .ok (.fz (.bl (nmB x))) := appF_fz (evs := [.fz (.str x)]) (ev_is_name' x h.2) rfl
theorem ap_order {u : Wd} (h : u.length ≤ 16777216) : appF F_order [.fz (.tup (stD u))] = .ok (.fz (.tup [.int u.length, .tup (stD u)])) := by
  refine appF_fz (evs := [.fz (.tup (stD u))]) ?_ rfl
  show F_order [.tup (stD u)] = _
  unfold F_order runB b_order
  have h2 : (2 : Nat) ≤ sizeLine := size_big (by decide)
  simp [seqD, allFz, h2]
def kvsD {α : Type} (g : α → D) (f : List (Str × α)) : List (D × D) := f.map fun p => (.str p.1, g p.2)
theorem dfind_kvs {α : Type} (g : α → D) (f : List (Str × α)) (x : Str) : dfind (kvsD g f) (.str x) = (getA f x).map g := by
  induction f with
  | nil => rfl
  | cons p f ih =>
    show dfind ((.str p.1, g p.2) :: kvsD g f) _ = _
    rw [dfind_cons, ih, getA_cons]
    simp only [keyEq_str, decide_eq_true_eq]
    split <;> rfl
theorem dstore_kvs {α : Type} (g : α → D) (f : List (Str × α)) (x : Str) (w : α) : dstore (kvsD g f) (.str x) (g w) = kvsD g (putA f x w) := by
  unfold dstore putA
  have e : ((kvsD g f).any fun kv => keyEq kv.1 (.str x)) = f.any fun p => decide (p.1 = x) := by
    unfold kvsD
    rw [List.any_map]
    congr 1
    funext p
    simp
  rw [e]
  split
  · unfold kvsD
    rw [List.map_map, List.map_map]
    apply List.map_congr_left
    intro p _
    simp only [Function.comp]
    by_cases h : p.1 = x
    · simp [h]
    · simp [h]
  · unfold kvsD; simp
theorem kvsD_length {α : Type} (g : α → D) (f : List (Str × α)) : (kvsD g f).length = f.length := by unfold kvsD; simp
theorem in_kvs {α : Type} (g : α → D) (f : List (Str × α)) (x : Str) {b : EV} {t : Bool} (hb : b.d = .dct false t (kvsD g f)) : opIn (.fz (.str x)) b = .ok (.fz (.bl (getA f x).isSome)) := by
  unfold opIn inD
  rw [hb]
  simp [dfind_kvs]
theorem ni_kvs {α : Type} (g : α → D) (f : List (Str × α)) (x : Str) {b : EV} {t : Bool} (hb : b.d = .dct false t (kvsD g f)) : opNi (.fz (.str x)) b = .ok (.fz (.bl (!(getA f x).isSome))) := by
  unfold opNi inD
  rw [hb]
  simp [dfind_kvs]
theorem ix_kvs {α : Type} (g : α → D) (f : List (Str × α)) (x : Str) {b : EV} {t : Bool} {w : α} (hb : b.d = .dct false t (kvsD g f)) (h : getA f x = some w) : opIxK b (.fz (.str x)) = .ok (.fz (g w)) := by
  unfold opIxK
  rw [hb]
  simp [dfind_kvs, h]
theorem wh_rel {c : DL.Env → Rz Bool} {b : DL.Env → Out} (I : Nat → DL.Env → Prop) (k : Nat → Bool) (M : Nat) (hM : k M = false) (hc : ∀ i e, I i e → c e = .ok (k i)) (hb : ∀ i e, I i e → k i = true → ∃ e', (b e = .nx e' ∨ b e = .ct e') ∧ I (i + 1) e') :
    ∀ (n i : Nat) (e : DL.Env), i ≤ M → M - i < n → I i e → ∃ j e', whF c b n e = .nx e' ∧ I j e' ∧ k j = false ∧ j ≤ M
  | 0, i, e, _, h, _ => absurd h (Nat.not_lt_zero _)
  | n + 1, i, e, hi, h, he => by
    rw [whF, hc i e he]
    cases hk : k i with
    | false => exact ⟨i, e, rfl, he, hk, hi⟩
    | true =>
      obtain ⟨e', h1, h2⟩ := hb i e he hk
      have hlt : i < M := Nat.lt_of_le_of_ne hi fun z => by rw [z, hM] at hk; cases hk
      obtain ⟨j, e2, g1, g2, g3, g4⟩ := wh_rel I k M hM hc hb n (i + 1) e' hlt (by omega) h2
      refine ⟨j, e2, ?_, g2, g3, g4⟩
      dsimp only
      rcases h1 with h1 | h1 <;> (rw [h1]; exact g1)
end LW
namespace LW
open PySem L2 DL
def tW (u : Wd) : D := .tup (stD u)
def rD (r : Rl) : D := .tup [.str r.1, .tup (stD r.2)]
structure RuOk (b : Nat) (r : Rl) : Prop where
  nm : okW r.1
  sy : ∀ x ∈ r.2, okW x
  len : r.2.length ≤ b
structure Gd (rs : List Rl) (b N : Nat) : Prop where
  ru : ∀ r ∈ rs, RuOk b r
  b1 : 1 ≤ b
  NL : ∃ NL : List Str, (∀ r ∈ rs, r.1 ∈ NL) ∧ NL.length ≤ N
  big : b ^ (N + 1) ≤ 1000000
  R : rs.length ≤ 100000
def OkF (f : As) : Prop := ∀ x w, getA f x = some w → okS w
theorem valW_ok {f : As} (h : OkF f) : ∀ {q : List Str} {w : Wd}, (∀ x ∈ q, okW x) → valW (getA f) q = some w → okS w
  | [], w, _, e => by cases e; intro x hx; cases hx
  | x :: r, w, hq, e => by
    obtain ⟨u, v, hu, hv, rfl⟩ := valW_cons e
    have h2 := valW_ok h (fun y hy => hq y (.tail _ hy)) hv
    intro y hy
    rcases List.mem_append.mp hy with hy | hy
    · unfold symW at hu
      split at hu
      · cases hu
        rw [List.mem_singleton] at hy; subst hy
        exact (hq y List.mem_cons_self).1
      · exact h x u hu y hy
    · exact h2 y hy
theorem OkF.step {s : As × Bool} {r : Rl} (h : OkF s.1) (hr : ∀ x ∈ r.2, okW x) : OkF (stepF s r).1 := by
  unfold stepF
  split
  · exact h
  · rename_i w hw
    split
    · intro x v e
      have e : getA (putA s.1 r.1 w) x = some v := e
      rw [getA_put] at e
      split at e
      · cases e; exact valW_ok h hr hw
      · exact h x v e
    · exact h
theorem valW_cc (f : Str → Option Wd) (x : Str) (q : List Str) : valW f (x :: q) = (symW f x).bind fun a => (valW f q).map (a ++ ·) := rfl
theorem valW_some (f : Str → Option Wd) : ∀ q : List Str, (valW f q).isSome = q.all fun x => sgB x || (f x).isSome
  | [] => rfl
  | x :: q => by
    rw [List.all_cons, ← valW_some f q, valW_cc]
    have e : (sgB x || (f x).isSome) = (symW f x).isSome := by
      unfold symW
      cases h : isSg x.cps.toList <;> simp [sgB, h]
    rw [e]
    cases symW f x with
    | none => rfl
    | some a => cases valW f q <;> rfl
structure St (rs : List Rl) (b N : Nat) (f : As) : Prop where
  len : LenOk rs b f
  ok : OkF f
theorem St.step {rs : List Rl} {b N : Nat} (g : Gd rs b N) {s : As × Bool} (h : St rs b N s.1) {r : Rl} (hr : r ∈ rs) : St rs b N (stepF s r).1 :=
  ⟨h.len.step g.b1 hr (g.ru r hr).len, h.ok.step (g.ru r hr).sy⟩
theorem St.nil {rs : List Rl} {b N : Nat} : St rs b N [] := ⟨.nil, fun x w e => by cases e⟩
theorem St.fold {rs : List Rl} {b N : Nat} (g : Gd rs b N) : ∀ (l : List Rl) (s : As × Bool), (∀ r ∈ l, r ∈ rs) → St rs b N s.1 → St rs b N (l.foldl stepF s).1
  | [], s, _, h => h
  | r :: l, s, hl, h => by
    rw [List.foldl_cons]
    exact St.fold g l _ (fun q hq => hl q (.tail _ hq)) (h.step g (hl r List.mem_cons_self))
theorem St.iter {rs : List Rl} {b N : Nat} (g : Gd rs b N) : ∀ n, St rs b N (iterF rs n)
  | 0 => .nil
  | n + 1 => St.fold g rs _ (fun _ h => h) (St.iter g n)
theorem St.word {rs : List Rl} {b N : Nat} (g : Gd rs b N) {f : As} (h : St rs b N f) {r : Rl} (hr : r ∈ rs) {w : Wd} (hw : valW (getA f) r.2 = some w) : w.length ≤ 1000000 := by
  obtain ⟨NL, h1, h2⟩ := g.NL
  have hc : f.length ≤ N := Nat.le_trans (h.len.card h1) h2
  have hB : 1 ≤ b ^ f.length := Nat.pow_pos g.b1
  have := valW_len hB (fun x v e => h.len.get g.b1 e) r.2 w hw
  calc w.length ≤ r.2.length * b ^ f.length := this
    _ ≤ b * b ^ N := Nat.mul_le_mul (g.ru r hr).len (Nat.pow_le_pow_right g.b1 hc)
    _ = b ^ (N + 1) := by rw [Nat.pow_succ, Nat.mul_comm]
    _ ≤ 1000000 := g.big
theorem St.told {rs : List Rl} {b N : Nat} (g : Gd rs b N) {f : As} (h : St rs b N f) {x : Str} {w : Wd} (hw : getA f x = some w) : w.length ≤ 1000000 := by
  obtain ⟨NL, h1, h2⟩ := g.NL
  have hc : f.length ≤ N := Nat.le_trans (h.len.card h1) h2
  exact Nat.le_trans (h.len.get g.b1 hw) (Nat.le_trans (Nat.pow_le_pow_right g.b1 (by omega)) g.big)
theorem St.size {rs : List Rl} {b N : Nat} (g : Gd rs b N) {f : As} (h : St rs b N f) : f.length ≤ 100000 := by
  have := nodup_len h.len.nd h.len.sub
  rw [List.length_map, List.length_map] at this
  have := g.R
  omega
theorem put_ok {i : Nat} {mk mv : DL.Env → Rz EV} {env : DL.Env} {a : EV} {d k : D} {kvs : List (D × D)} (hv : mv env = .ok a) (ha : a.fr = .fz d) (hs : env.getD i .no = .own (.dct false kvs)) (hk : mk env = .ok (.fz k)) (hkey : isKeyD false k = true) (hl : kvs.length < sizeLine) :
    mPut i mk mv env = .nx (env.set i (.own (.dct false (dstore kvs k d)))) := by
  unfold mPut onE
  rw [hv]
  dsimp only
  rw [ha, hs]
  dsimp only
  rw [hk]
  dsimp only
  unfold putK'
  dsimp only
  rw [if_pos ⟨hkey, hl⟩]
theorem size1 : (1 : Nat) ≤ sizeLine := size_big (by decide)
theorem lw_l1 {v0 v2 v3 v4 v7 : SL} {f : As} {acc a : Wd} {x : Str} (hx : okW x) (ha : symW (getA f) x = some a) (hl : acc.length + a.length ≤ 16777216) :
    l1_least_words [v0, .own (.dct false (kvsD tW f)), v2, v3, v4, .val (.tup (stD acc)), .val (.str x), v7] = .nx [v0, .own (.dct false (kvsD tW f)), v2, v3, v4, .val (.tup (stD (acc ++ a))), .val (.str x), v7] := by
  unfold l1_least_words
  have hz : acc.length + a.length ≤ sizeLine := size_big hl
  unfold symW at ha
  by_cases hs : isSg x.cps.toList = true
  · rw [if_pos hs] at ha
    cases ha
    have hz : acc.length + 1 ≤ sizeLine := by simpa using hz
    simp [ap_sign hx, sgB, hs, allFz, size1, hz]
  · rw [if_neg hs] at ha
    have hs' : isSg x.cps.toList = false := by simpa using hs
    have hi := ix_kvs tW f x (b := .ow false (.dct false (kvsD tW f))) (t := false) rfl ha
    simp [ap_sign hx, sgB, hs', hi, tW, hz]
theorem lw_for {v0 v2 v3 v4 v7 : SL} {f : As} : ∀ (q : List Str) (acc w : Wd) (v6 : SL), (∀ x ∈ q, okW x) → valW (getA f) q = some w → acc.length + w.length ≤ 16777216 →
    ∃ v6', forF (pName 6) l1_least_words (stD q) [v0, .own (.dct false (kvsD tW f)), v2, v3, v4, .val (.tup (stD acc)), v6, v7] = .nx [v0, .own (.dct false (kvsD tW f)), v2, v3, v4, .val (.tup (stD (acc ++ w))), v6', v7]
  | [], acc, w, v6, _, h, _ => by cases h; exact ⟨v6, by simp [forF]⟩
  | x :: q, acc, w, v6, hq, h, hl => by
    obtain ⟨a, b, ha, hb, rfl⟩ := valW_cons h
    rw [List.length_append] at hl
    have e := lw_l1 (v0 := v0) (v2 := v2) (v3 := v3) (v4 := v4) (v7 := v7) (hq x List.mem_cons_self) ha (acc := acc) (by omega)
    obtain ⟨v6', i⟩ := lw_for (v0 := v0) (v2 := v2) (v3 := v3) (v4 := v4) (v7 := v7) q (acc ++ a) b (.val (.str x)) (fun y hy => hq y (.tail _ hy)) hb (by rw [List.length_append]; omega)
    refine ⟨v6', ?_⟩
    rw [show stD (x :: q) = .str x :: stD q from rfl, forF]
    simp only [pName_e, List.set_cons_zero, List.set_cons_succ, e]
    rw [i, List.append_assoc]
theorem lw_all {v0 v2 v3 v5 v6 v7 : SL} {f : As} {q : List Str} (hq : ∀ x ∈ q, okW x) (hl : q.length ≤ 100000) :
    mLc (mItems (mV 4)) (pName 7) mYes e1_least_words [7] [v0, .own (.dct false (kvsD tW f)), v2, v3, .val (.tup (stD q)), v5, v6, v7] = .ok (.ow true (.lst ((q.map fun x => sgB x || (getA f x).isSome).map .bl))) := by
  rw [List.map_map]
  refine mLc_all (en := D.str) (xs := q) (by simp) (fun x hx => ?_) (size_big (by omega))
  unfold e1_least_words
  have hi := in_kvs tW f x (b := .ow false (.dct false (kvsD tW f))) (t := false) rfl
  refine ⟨.fz (.bl (sgB x || (getA f x).isSome)), ?_, rfl⟩
  simp only [mOrV_e, mFn_e, mCons_e, mNil_e, mV_e, List.getD_cons_zero, List.getD_cons_succ, List.set_cons_zero, List.set_cons_succ, rdSlot_val, rdSlot_own, Rz.ok_bind, EV.fr_fz, List.length_cons, List.length_nil, m2_e, ap_sign (hq x hx), hi, asB_bl]
  cases sgB x <;> simp [ap_sign (hq x hx), hi]
theorem lw_l2 {rs : List Rl} {b N : Nat} (g : Gd rs b N) {f : As} (hf : St rs b N f) {n : Str} {q : List Str} (hr : (n, q) ∈ rs) (v0 v5 v6 v7 : SL) (ch : Bool) : ∃ v5' v6' v7',
    (l2_least_words [v0, .own (.dct false (kvsD tW f)), .val (.bl ch), .val (.str n), .val (.tup (stD q)), v5, v6, v7] = .nx [v0, .own (.dct false (kvsD tW (stepF (f, ch) (n, q)).1)), .val (.bl (stepF (f, ch) (n, q)).2), .val (.str n), .val (.tup (stD q)), v5', v6', v7'] ∨
     l2_least_words [v0, .own (.dct false (kvsD tW f)), .val (.bl ch), .val (.str n), .val (.tup (stD q)), v5, v6, v7] = .ct [v0, .own (.dct false (kvsD tW (stepF (f, ch) (n, q)).1)), .val (.bl (stepF (f, ch) (n, q)).2), .val (.str n), .val (.tup (stD q)), v5', v6', v7']) := by
  have ru := g.ru _ hr
  have hb : b ≤ 1000000 := by
    calc b = b ^ 1 := (Nat.pow_one b).symm
      _ ≤ b ^ (N + 1) := Nat.pow_le_pow_right g.b1 (by omega)
      _ ≤ 1000000 := g.big
  have hql : q.length ≤ 1000000 := Nat.le_trans ru.len hb
  have hall : ∀ v5 v6 v7 : SL, mLc (mItems (mV 4)) (pName 7) mYes e1_least_words [7] [v0, .own (.dct false (kvsD tW f)), .val (.bl ch), .val (.str n), .val (.tup (stD q)), v5, v6, v7] = .ok (.ow true (.lst ((q.map fun x => sgB x || (getA f x).isSome).map .bl))) := fun v5 v6 v7 => by
    rw [List.map_map]
    refine mLc_all (en := D.str) (xs := q) (by simp) (fun x hx => ?_) (size_big (by omega))
    unfold e1_least_words
    have hi := in_kvs tW f x (b := .ow false (.dct false (kvsD tW f))) (t := false) rfl
    refine ⟨.fz (.bl (sgB x || (getA f x).isSome)), ?_, rfl⟩
    cases hs : sgB x <;> simp [ap_sign (ru.sy x hx), hi, hs]
  unfold l2_least_words
  cases hv : valW (getA f) q with
  | none =>
    have ha : (q.map fun x => sgB x || (getA f x).isSome).all id = false := by
      rw [List.all_map]
      have := valW_some (getA f) q
      rw [hv] at this
      exact this.symm
    refine ⟨v5, v6, v7, .inr ?_⟩
    have e : stepF (f, ch) (n, q) = (f, ch) := by unfold stepF; rw [show (f, ch).1 = f from rfl, show (n, q).2 = q from rfl, hv]
    rw [e]
    simp only [mSeq_e, mIfS_e, mNot_e, mB_e, mCall_e, mCons_e, mNil_e, hall, Rz.ok_bind, EV.fr_new, OW.d_lst, gAll_map, ha, asB_bl]
    simp
  | some w =>
    have ha : (q.map fun x => sgB x || (getA f x).isSome).all id = true := by
      rw [List.all_map]
      have := valW_some (getA f) q
      rw [hv] at this
      exact this.symm
    have hwl := hf.word g hr hv
    have hwo := valW_ok hf.ok ru.sy hv
    obtain ⟨v6', hfor⟩ := lw_for (v0 := v0) (v2 := .val (.bl ch)) (v3 := .val (.str n)) (v4 := .val (.tup (stD q))) (v7 := v7) q [] w v6 ru.sy hv (by simp; omega)
    have hfor' : mFor (mItems (mV 4)) (pName 6) l1_least_words [v0, .own (.dct false (kvsD tW f)), .val (.bl ch), .val (.str n), .val (.tup (stD q)), .val (.tup []), v6, v7] = _ := (for_ok (ds := stD q) (by simp)).trans hfor
    rw [List.nil_append] at hfor'
    have hni := ni_kvs tW f n (b := .ow false (.dct false (kvsD tW f))) (t := false) rfl
    have hlt : (kvsD tW f).length < sizeLine := by
      rw [kvsD_length]
      have := hf.size g
      exact Nat.lt_of_lt_of_le (by omega : f.length < 100001) (size_big (by decide))
    have hcond : ∀ (v6 v7 : SL), (mOr (mB (m2 (mV 3) (mV 1) opNi)) (mB (m2 (mFn F_order (mCons (mV 5) mNil) 1) (mFn F_order (mCons (m2 (mV 1) (mV 3) opIxK) mNil) 1) opLt))) [v0, .own (.dct false (kvsD tW f)), .val (.bl ch), .val (.str n), .val (.tup (stD q)), .val (.tup (stD w)), v6, v7] = .ok (better f n w) := fun v6 v7 => by
      unfold better
      cases hg : getA f n with
      | none => rw [hg] at hni; simp [hni]
      | some u =>
        rw [hg] at hni
        have hix := ix_kvs tW f n (b := .ow false (.dct false (kvsD tW f))) (t := false) rfl hg
        have hul := hf.told g hg
        have h1 := ap_order (u := w) (by omega)
        have h2 := ap_order (u := u) (by omega)
        have h3 := lt_ord hwo (hf.ok n u hg)
        simp only [mOr_e, mB_e, m2_e, mV_e, mFn_e, mCons_e, mNil_e, List.getD_cons_zero, List.getD_cons_succ, rdSlot_val, rdSlot_own, Rz.ok_bind, hni, asB_bl, Option.isSome_some, Bool.not_true, Bool.false_eq_true, if_false, EV.fr_fz, List.length_cons, List.length_nil, h1, hix, tW, h2]
        simp
        rw [h3]; rfl
    have hst : stepF (f, ch) (n, q) = if better f n w = true then (putA f n w, true) else (f, ch) := by
      unfold stepF; rw [show (f, ch).1 = f from rfl, show (n, q).2 = q from rfl, hv]
    have hput : ∀ v6 v7 : SL, mPut 1 (mV 3) (mV 5) [v0, .own (.dct false (kvsD tW f)), .val (.bl ch), .val (.str n), .val (.tup (stD q)), .val (.tup (stD w)), v6, v7] = .nx [v0, .own (.dct false (kvsD tW (putA f n w))), .val (.bl ch), .val (.str n), .val (.tup (stD q)), .val (.tup (stD w)), v6, v7] := fun v6 v7 => by
      rw [put_ok (a := .fz (tW w)) (d := tW w) (k := .str n) (kvs := kvsD tW f) rfl rfl rfl rfl rfl hlt, dstore_kvs]
      rfl
    refine ⟨.val (.tup (stD w)), v6', v7, .inl ?_⟩
    rw [hst]
    simp only [mSeq_e, mIfS_e, mNot_e, mB_e, mCall_e, mCons_e, mNil_e, hall, Rz.ok_bind, EV.fr_new, OW.d_lst, gAll_map, ha, asB_bl, Bool.not_true, Bool.false_eq_true, if_false]
    have hnil : (mSetF 5 (mTup mNil)) [v0, .own (.dct false (kvsD tW f)), .val (.bl ch), .val (.str n), .val (.tup (stD q)), v5, v6, v7] = .nx [v0, .own (.dct false (kvsD tW f)), .val (.bl ch), .val (.str n), .val (.tup (stD q)), .val (.tup []), v6, v7] := by
      simp
    rw [hnil]
    dsimp only
    rw [hfor']
    dsimp only
    rw [hcond]
    dsimp only
    cases hbt : better f n w with
    | true =>
      rw [if_pos rfl, if_pos rfl, hput]
      simp
    | false =>
      rw [if_neg Bool.false_ne_true, if_neg Bool.false_ne_true]
end LW
namespace LW
open PySem L2 DL
def midF (rs : List Rl) (f : As) (i : Nat) : As × Bool := (rs.take i).foldl stepF (f, false)
theorem midF_succ {rs : List Rl} {f : As} {i : Nat} {r : Rl} (h : rs[i]? = some r) : midF rs f (i + 1) = stepF (midF rs f i) r := by
  unfold midF
  obtain ⟨hl, e⟩ := List.getElem?_eq_some_iff.mp h
  rw [List.take_succ, h]
  simp
theorem midF_all (rs : List Rl) (f : As) : midF rs f rs.length = passF rs f := by
  unfold midF passF; rw [List.take_length]
theorem midF_st {rs : List Rl} {b N : Nat} (g : Gd rs b N) {f : As} (h : St rs b N f) (i : Nat) : St rs b N (midF rs f i).1 :=
  St.fold g _ _ (fun r hr => List.mem_of_mem_take hr) h
theorem pT2 (i j : Nat) (x y : D) (env : DL.Env) : pTup (pCons (pName i) (pCons (pName j) pNil)) 2 (.tup [x, y]) env = .ok ((env.set i (.val x)).set j (.val y)) := rfl
theorem lw_pass {rs : List Rl} {b N : Nat} (g : Gd rs b N) {f : As} (hf : St rs b N f) (v2 v3 v4 v5 v6 v7 : SL) : ∃ v3' v4' v5' v6' v7',
    l3_least_words [.val (.tup (rs.map rD)), .own (.dct false (kvsD tW f)), v2, v3, v4, v5, v6, v7] = .nx [.val (.tup (rs.map rD)), .own (.dct false (kvsD tW (passF rs f).1)), .val (.bl (passF rs f).2), v3', v4', v5', v6', v7'] := by
  obtain ⟨e', h1, v3', v4', v5', v6', v7', h2⟩ := for_inv (p := pTup (pCons (pName 3) (pCons (pName 4) pNil)) 2) (b := l2_least_words) rD
    (fun i e => ∃ v3 v4 v5 v6 v7, e = [.val (.tup (rs.map rD)), .own (.dct false (kvsD tW (midF rs f i).1)), .val (.bl (midF rs f i).2), v3, v4, v5, v6, v7]) rs 0
    [.val (.tup (rs.map rD)), .own (.dct false (kvsD tW f)), .val (.bl false), v3, v4, v5, v6, v7] (fun i r e hi ⟨v3, v4, v5, v6, v7, he⟩ => by
      rw [Nat.zero_add] at he ⊢
      subst he
      have hr : r ∈ rs := List.mem_of_getElem? hi
      obtain ⟨v5', v6', v7', h⟩ := lw_l2 g (midF_st g hf i) (n := r.1) (q := r.2) hr (.val (.tup (rs.map rD))) v5 v6 v7 (midF rs f i).2
      refine ⟨_, [.val (.tup (rs.map rD)), .own (.dct false (kvsD tW (stepF (midF rs f i) r).1)), .val (.bl (stepF (midF rs f i) r).2), .val (.str r.1), .val (.tup (stD r.2)), v5', v6', v7'], pT2 3 4 (.str r.1) (.tup (stD r.2)) _, ?_, .val (.str r.1), .val (.tup (stD r.2)), v5', v6', v7', by rw [midF_succ hi]⟩
      simpa using h) ⟨v3, v4, v5, v6, v7, rfl⟩
  rw [Nat.zero_add, midF_all] at h2
  refine ⟨v3', v4', v5', v6', v7', ?_⟩
  unfold l3_least_words
  have hfor : mFor (mItems (mV 0)) (pTup (pCons (pName 3) (pCons (pName 4) pNil)) 2) l2_least_words [.val (.tup (rs.map rD)), .own (.dct false (kvsD tW f)), .val (.bl false), v3, v4, v5, v6, v7] = .nx e' := (for_ok (ds := rs.map rD) (by simp)).trans h1
  rw [h2] at hfor
  simp only [mSeq_e, mSetF_e, mC_e, stF_fz, List.set_cons_zero, List.set_cons_succ, hfor]
theorem ev_least {rs : List Rl} {b N : Nat} (g : Gd rs b N) : F_least_words [.tup (rs.map rD)] = .ok (.fz (.dct false true (kvsD tW (least rs)))) := by
  unfold F_least_words runB b_least_words
  let fl : Nat → Bool := fun i => match i with
    | 0 => true
    | i + 1 => (passF rs (iterF rs i)).2
  obtain ⟨j, e', h1, ⟨v3, v4, v5, v6, v7, h2⟩, h3, h4⟩ := wh_rel (c := w1_least_words) (b := l3_least_words)
    (fun i e => ∃ v3 v4 v5 v6 v7, e = [.val (.tup (rs.map rD)), .own (.dct false (kvsD tW (iterF rs i))), .val (.bl (fl i)), v3, v4, v5, v6, v7]) fl (rs.length + 1) (least_end (Nat.le_refl _))
    (fun i e ⟨v3, v4, v5, v6, v7, he⟩ => by subst he; unfold w1_least_words; simp)
    (fun i e ⟨v3, v4, v5, v6, v7, he⟩ _ => by
      subst he
      obtain ⟨v3', v4', v5', v6', v7', h⟩ := lw_pass g (St.iter g i) (.val (.bl (fl i))) v3 v4 v5 v6 v7
      exact ⟨_, .inl h, v3', v4', v5', v6', v7', rfl⟩)
    fuel 0 [.val (.tup (rs.map rD)), .own (.dct false []), .val (.bl true), .no, .no, .no, .no, .no] (Nat.zero_le _) (by have := g.R; exact fuel_big (by omega)) ⟨.no, .no, .no, .no, .no, rfl⟩
  have hj : iterF rs j = least rs := by
    cases j with
    | zero => cases h3
    | succ i => rw [iter_stop h3 (i + 1) (Nat.le_succ i)]; exact least_stop h3
  rw [hj] at h2
  have hw : mWhile w1_least_words l3_least_words [.val (.tup (rs.map rD)), .own (.dct false []), .val (.bl true), .no, .no, .no, .no, .no] = .nx e' := h1
  subst h2
  simp [hw, mNewD, mLock]
end LW
namespace LW
open PySem L2 DL
theorem cut1 (c : Nat) (r : List Nat) : cutS (mk (c :: r)) none (some 1) = mk [c] := by
  unfold cutS HT.sIx
  simp [mk_len]
theorem opLe_str (x y : Str) : opLe (.fz (.str x)) (.fz (.str y)) = .ok (.fz (.bl (!strLt y x))) := rfl
theorem ltA (a c : Nat) : strLt (mk [a]) (mk [c]) = decide (a < c) := by
  have e : ([a] < [c]) ↔ a < c := by rw [List.cons_lt_cons_iff]; simp
  unfold strLt
  exact decide_eq_decide.mpr e
theorem sA : ("A" : Str) = mk [65] := by decide +kernel
theorem sZ : ("Z" : Str) = mk [90] := by decide +kernel
def symB (x : Str) : Prop := sgB x = true ∨ nmB x = true
theorem isX_head {first l : List Nat} (h : isX first l = true) : ∃ c r, l = c :: r ∧ c ∈ first := by
  unfold isX at h
  cases l with
  | nil => simp at h
  | cons c r => simp at h; exact ⟨c, r, rfl, h.2⟩
theorem sg_nm {x : Str} (h : sgB x = true) : nmB x = false := by
  obtain ⟨c, r, e, hc⟩ := isX_head h
  have hn : ∀ c ∈ cLow, c ∉ cUpp := by decide
  cases hq : nmB x with
  | false => rfl
  | true =>
    obtain ⟨c', r', e', hc'⟩ := isX_head hq
    rw [e] at e'
    cases e'
    exact absurd hc' (hn c hc)
theorem ev_law_name {x : Str} (hx : okW x) (h : symB x) : F__law_name [.str x] = .ok (.fz (.bl (!sgB x))) := by
  unfold F__law_name runB b__law_name
  have low : ∀ c ∈ cLow, 97 ≤ c := by decide
  have upp : ∀ c ∈ cUpp, 65 ≤ c ∧ c ≤ 90 := by decide
  have hz : x.length ≤ sizeLine := size_big hx.2
  have hsl : ∀ (e : DL.Env), (mSl (mV 0) none (some (mC (.int 1)))) (.val (.str x) :: e) = .ok (.fz (.str (cutS x none (some 1)))) := fun e => by
    simp [gSl, hz]
  obtain ⟨c, r, e, hc⟩ : ∃ c r, x.cps.toList = c :: r ∧ ((sgB x = true ∧ 97 ≤ c) ∨ (sgB x = false ∧ 65 ≤ c ∧ c ≤ 90)) := by
    rcases h with h | h
    · obtain ⟨c, r, e, hc⟩ := isX_head h
      exact ⟨c, r, e, .inl ⟨h, low c hc⟩⟩
    · obtain ⟨c, r, e, hc⟩ := isX_head h
      refine ⟨c, r, e, .inr ⟨?_, upp c hc⟩⟩
      cases hs : sgB x with
      | false => rfl
      | true => rw [sg_nm hs] at h; cases h
  have ex : cutS x none (some 1) = mk [c] := by
    rw [← cut1 c r, ← e, DL.mk_of]
  rw [ex] at hsl
  rcases hc with ⟨hs, hc⟩ | ⟨hs, h1, h2⟩
  · have a1 : (decide (c < 65)) = false := by simp; omega
    have a2 : (decide (90 < c)) = true := by simp; omega
    simp [hsl, -mSl_e, sA, sZ, ltA, a1, a2, hs]
  · have a1 : (decide (c < 65)) = false := by simp; omega
    have a2 : (decide (90 < c)) = false := by simp; omega
    simp [hsl, -mSl_e, sA, sZ, ltA, a1, a2, hs]
theorem ap_law_name {x : Str} (hx : okW x) (h : symB x) : appF F__law_name [.fz (.str x)] = .ok (.fz (.bl (!sgB x))) := appF_fz (evs := [.fz (.str x)]) (ev_law_name hx h) rfl
theorem ev_law_less {u v : Wd} (hu : okS u) (hv : okS v) : F__law_less [.lst (stD u), .lst (stD v)] = .ok (.fz (.bl (slx u v))) := by
  unfold F__law_less runB b__law_less
  have hl := lt_lst hu hv true true
  have e : slx u v = (decide ((u.length : Int) < v.length) || (decide ((u.length : Int) = v.length) && lexB u v)) := by
    unfold slx
    rw [show decide (u.length < v.length) = decide ((u.length : Int) < v.length) from decide_eq_decide.mpr (by omega), show decide (u.length = v.length) = decide ((u.length : Int) = v.length) from decide_eq_decide.mpr (by omega)]
  rw [e]
  by_cases h1 : (u.length : Int) < v.length
  · simp [h1]
  · by_cases h2 : (u.length : Int) = v.length
    · have h2' : u.length = v.length := by omega
      have h1' : ¬ u.length < v.length := by omega
      simp [h1', h2', hl]
    · have h2' : ¬ u.length = v.length := by omega
      have h1' : ¬ u.length < v.length := by omega
      simp [h1, h1', h2, h2']
theorem ap_law_less {u v : Wd} (hu : okS u) (hv : okS v) : appF F__law_less [.fz (.lst (stD u)), .fz (.lst (stD v))] = .ok (.fz (.bl (slx u v))) := appF_fz (evs := [.fz (.lst (stD u)), .fz (.lst (stD v))]) (ev_law_less hu hv) rfl
def lW (u : Wd) : D := .lst (stD u)
def rL (r : Rl) : D := .lst [.str r.1, .lst (stD r.2)]
def oD : Option Wd → D
  | none => .non
  | some u => .lst (stD u)
theorem stepF_ch (f : As) (ch ch' : Bool) (r : Rl) : (stepF (f, ch) r).1 = (stepF (f, ch') r).1 := by
  unfold stepF
  cases valW (getA f) r.2 with
  | none => rfl
  | some w => dsimp only; split <;> rfl
def accW (f : Str → Option Wd) (o : Option Wd) (x : Str) : Option Wd := o.bind fun u => (symW f x).map (u ++ ·)
theorem accW_fold (f : Str → Option Wd) : ∀ (q : List Str) (o : Option Wd), q.foldl (accW f) o = o.bind fun u => (valW f q).map (u ++ ·)
  | [], o => by cases o <;> simp [valW]
  | x :: q, o => by
    rw [List.foldl_cons, accW_fold f q, valW_cc]
    unfold accW
    cases o with
    | none => rfl
    | some u =>
      rw [Option.bind_some, Option.bind_some]
      cases symW f x with
      | none => rfl
      | some a =>
        cases valW f q with
        | none => rfl
        | some b => simp
theorem ll_l1 {v0 v2 v3 : SL} {f : As} {o : Option Wd} {x : Str} (hx : okW x) (hs : symB x) (ho : ∀ u, o = some u → u.length ≤ 2000000) (hf : ∀ x w, getA f x = some w → w.length ≤ 1000000) :
    l1__law_least [v0, .own (.dct false (kvsD lW f)), v2, v3, .val (oD o), .val (.str x)] = .nx [v0, .own (.dct false (kvsD lW f)), v2, v3, .val (oD (accW (getA f) o x)), .val (.str x)] := by
  unfold l1__law_least
  cases o with
  | none => simp [oD, opIsn, DL.isNon, accW]
  | some u =>
    have hu := ho u rfl
    have hz : u.length + 1 ≤ sizeLine := size_big (by omega)
    cases hsg : sgB x with
    | true =>
      have e : accW (getA f) (some u) x = some (u ++ [x]) := by unfold accW symW; simp [show isSg x.cps.toList = true from hsg]
      rw [e]
      simp [oD, opIsn, DL.isNon, ap_law_name hx hs, hsg, allFz, size1, hz]
    | false =>
      have hsg' : isSg x.cps.toList = false := hsg
      have hi := in_kvs lW f x (b := .ow false (.dct false (kvsD lW f))) (t := false) rfl
      cases hg : getA f x with
      | none =>
        have e : accW (getA f) (some u) x = none := by unfold accW symW; simp [hsg', hg]
        rw [e]
        rw [hg] at hi
        simp [oD, opIsn, DL.isNon, ap_law_name hx hs, hsg, hi]
      | some a =>
        have e : accW (getA f) (some u) x = some (u ++ a) := by unfold accW symW; simp [hsg', hg]
        rw [e]
        rw [hg] at hi
        have hix := ix_kvs lW f x (b := .ow false (.dct false (kvsD lW f))) (t := false) rfl hg
        have ha := hf x a hg
        have hz2 : u.length + a.length ≤ sizeLine := size_big (by omega)
        simp [oD, opIsn, DL.isNon, ap_law_name hx hs, hsg, hi, hix, lW, hz2]
theorem ll_for {v0 v2 v3 : SL} {f : As} (hf : ∀ x w, getA f x = some w → w.length ≤ 1000000) : ∀ (q : List Str) (o : Option Wd) (v5 : SL), (∀ x ∈ q, okW x ∧ symB x) → (∀ (k : Nat) u, (q.take k).foldl (accW (getA f)) o = some u → u.length ≤ 2000000) →
    ∃ v5', forF (pName 5) l1__law_least (stD q) [v0, .own (.dct false (kvsD lW f)), v2, v3, .val (oD o), v5] = .nx [v0, .own (.dct false (kvsD lW f)), v2, v3, .val (oD (q.foldl (accW (getA f)) o)), v5']
  | [], o, v5, _, _ => ⟨v5, by simp [forF]⟩
  | x :: q, o, v5, hq, hk => by
    have h0 := hq x List.mem_cons_self
    have e := ll_l1 (v0 := v0) (v2 := v2) (v3 := v3) (f := f) (o := o) h0.1 h0.2 (fun u hu => hk 0 u (by simpa using hu)) hf
    obtain ⟨v5', i⟩ := ll_for (v0 := v0) (v2 := v2) (v3 := v3) hf q (accW (getA f) o x) (.val (.str x)) (fun y hy => hq y (.tail _ hy)) (fun k u hu => hk (k + 1) u (by simpa using hu))
    refine ⟨v5', ?_⟩
    rw [show stD (x :: q) = .str x :: stD q from rfl, forF]
    simp only [pName_e, List.set_cons_zero, List.set_cons_succ, e]
    rw [i, List.foldl_cons]
theorem St.wordQ {rs : List Rl} {b N : Nat} (g : Gd rs b N) {f : As} (h : St rs b N f) {q : List Str} (hq : q.length ≤ b) {w : Wd} (hw : valW (getA f) q = some w) : w.length ≤ 1000000 := by
  obtain ⟨NL, h1, h2⟩ := g.NL
  have hc : f.length ≤ N := Nat.le_trans (h.len.card h1) h2
  have hB : 1 ≤ b ^ f.length := Nat.pow_pos g.b1
  have := valW_len hB (fun x v e => h.len.get g.b1 e) q w hw
  calc w.length ≤ q.length * b ^ f.length := this
    _ ≤ b * b ^ N := Nat.mul_le_mul hq (Nat.pow_le_pow_right g.b1 hc)
    _ = b ^ (N + 1) := by rw [Nat.pow_succ, Nat.mul_comm]
    _ ≤ 1000000 := g.big
theorem Gd.b_le {rs : List Rl} {b N : Nat} (g : Gd rs b N) : b ≤ 1000000 := by
  calc b = b ^ 1 := (Nat.pow_one b).symm
    _ ≤ b ^ (N + 1) := Nat.pow_le_pow_right g.b1 (by omega)
    _ ≤ 1000000 := g.big
theorem St.lt {rs : List Rl} {b N : Nat} (g : Gd rs b N) {f : As} (h : St rs b N f) (w : Wd → D) : (kvsD w f).length < sizeLine := by
  rw [kvsD_length]
  have := h.size g
  exact Nat.lt_of_lt_of_le (by omega : f.length < 100001) (size_big (by decide))
theorem ixL0 (r : Rl) : opIx (.fz (rL r)) (.fz (.int 0)) = .ok (.fz (.str r.1)) := rfl
theorem ixL1 (r : Rl) : opIx (.fz (rL r)) (.fz (.int 1)) = .ok (.fz (.lst (stD r.2))) := rfl
theorem ll_l2 {rs : List Rl} {b N : Nat} (g : Gd rs b N) {f : As} (hf : St rs b N f) {r : Rl} (hr : r ∈ rs) (hs : ∀ x ∈ r.2, symB x) (v0 v2 v4 v5 : SL) : ∃ v4' v5',
    l2__law_least [v0, .own (.dct false (kvsD lW f)), v2, .val (rL r), v4, v5] = .nx [v0, .own (.dct false (kvsD lW (stepF (f, false) r).1)), v2, .val (rL r), v4', v5'] := by
  have ru := g.ru _ hr
  have hb := g.b_le
  have hfold : ∀ q, q.foldl (accW (getA f)) (some []) = valW (getA f) q := fun q => by
    rw [accW_fold]; cases valW (getA f) q <;> simp
  obtain ⟨v5', hfor⟩ := ll_for (v0 := v0) (v2 := v2) (v3 := .val (rL r)) (f := f) (fun x w e => hf.told g e) r.2 (some []) v5 (fun x hx => ⟨ru.sy x hx, hs x hx⟩) (fun k u hu => by
    rw [hfold] at hu
    have := hf.wordQ g (q := r.2.take k) (by rw [List.length_take]; have := ru.len; omega) hu
    omega)
  rw [hfold] at hfor
  have hfor' : mFor (mItems (m2 (mV 3) (mC (.int 1)) opIx)) (pName 5) l1__law_least [v0, .own (.dct false (kvsD lW f)), v2, .val (rL r), .val (.lst []), v5] = _ := (for_ok (ds := stD r.2) (by
    show (opIx (.fz (rL r)) (.fz (.int 1)) >>= fun a => frD a >>= items) = _
    rw [ixL1]; rfl)).trans hfor
  have hnil : (mSetF 4 (mLst mNil)) [v0, .own (.dct false (kvsD lW f)), v2, .val (rL r), v4, v5] = .nx [v0, .own (.dct false (kvsD lW f)), v2, .val (rL r), .val (.lst []), v5] := by simp
  have hni := ni_kvs lW f r.1 (b := .ow false (.dct false (kvsD lW f))) (t := false) rfl
  have hl := hf.lt g lW
  unfold l2__law_least
  refine ⟨.val (oD (valW (getA f) r.2)), v5', ?_⟩
  rw [seq_ok hnil, seq_ok hfor']
  cases hv : valW (getA f) r.2 with
  | none =>
    have e : stepF (f, false) r = (f, false) := by unfold stepF; rw [show (f, false).1 = f from rfl, hv]
    rw [e]
    simp [oD, opIsn, DL.isNon]
  | some w =>
    have hwo := valW_ok hf.ok ru.sy hv
    have hst : stepF (f, false) r = if better f r.1 w = true then (putA f r.1 w, true) else (f, false) := by
      unfold stepF; rw [show (f, false).1 = f from rfl, hv]
    have hcond : (mAnd (mB (m2 (mV 4) (mC .non) opIsn)) (mOr (mB (m2 (m2 (mV 3) (mC (.int 0)) opIx) (mV 1) opNi)) (mB (mFn F__law_less (mCons (mV 4) (mCons (m2 (mV 1) (m2 (mV 3) (mC (.int 0)) opIx) opIxK) mNil)) 2)))) [v0, .own (.dct false (kvsD lW f)), v2, .val (rL r), .val (oD (some w)), v5'] = .ok (better f r.1 w) := by
      have e0 : ixD (.fz (rL r)) (.fz (.int 0)) = some (.str r.1) := rfl
      unfold better
      cases hg : getA f r.1 with
      | none => rw [hg] at hni; simp [oD, opIsn, DL.isNon, e0, hni]
      | some u =>
        rw [hg] at hni
        have hix := ix_kvs lW f r.1 (b := .ow false (.dct false (kvsD lW f))) (t := false) rfl hg
        have h3 := ap_law_less hwo (hf.ok r.1 u hg)
        simp [oD, opIsn, DL.isNon, e0, hni, hix, lW, h3]
    have hput : mPut 1 (m2 (mV 3) (mC (.int 0)) opIx) (mV 4) [v0, .own (.dct false (kvsD lW f)), v2, .val (rL r), .val (oD (some w)), v5'] = .nx [v0, .own (.dct false (kvsD lW (putA f r.1 w))), v2, .val (rL r), .val (oD (some w)), v5'] := by
      rw [put_ok (a := .fz (lW w)) (d := lW w) (k := .str r.1) (kvs := kvsD lW f) rfl rfl rfl rfl rfl hl, dstore_kvs]
      rfl
    rw [hst]
    simp only [mIfS_e, hcond]
    cases hbt : better f r.1 w with
    | true => rw [if_pos rfl, if_pos rfl, hput]
    | false => rw [if_neg Bool.false_ne_true, if_neg Bool.false_ne_true]
theorem midF_fst (rs : List Rl) (f : As) (i : Nat) {r : Rl} (h : rs[i]? = some r) : (midF rs f (i + 1)).1 = (stepF ((midF rs f i).1, false) r).1 := by
  rw [midF_succ h]
  exact stepF_ch _ _ _ _
theorem ll_pass {rs : List Rl} {b N : Nat} (g : Gd rs b N) (hs : ∀ r ∈ rs, ∀ x ∈ r.2, symB x) {f : As} (hf : St rs b N f) (v2 v3 v4 v5 : SL) : ∃ v3' v4' v5',
    l3__law_least [.val (.lst (rs.map rL)), .own (.dct false (kvsD lW f)), v2, v3, v4, v5] = .nx [.val (.lst (rs.map rL)), .own (.dct false (kvsD lW (passF rs f).1)), v2, v3', v4', v5'] := by
  obtain ⟨e', h1, v3', v4', v5', h2⟩ := for_inv (p := pName 3) (b := l2__law_least) rL
    (fun i e => ∃ v3 v4 v5, e = [.val (.lst (rs.map rL)), .own (.dct false (kvsD lW (midF rs f i).1)), v2, v3, v4, v5]) rs 0
    [.val (.lst (rs.map rL)), .own (.dct false (kvsD lW f)), v2, v3, v4, v5] (fun i r e hi ⟨v3, v4, v5, he⟩ => by
      rw [Nat.zero_add] at he ⊢
      subst he
      have hr : r ∈ rs := List.mem_of_getElem? hi
      obtain ⟨v4', v5', h⟩ := ll_l2 g (midF_st g hf i) hr (hs r hr) (.val (.lst (rs.map rL))) v2 v4 v5
      refine ⟨_, _, rfl, .inl h, .val (rL r), v4', v5', ?_⟩
      rw [midF_fst rs f i hi]) ⟨v3, v4, v5, rfl⟩
  rw [Nat.zero_add, midF_all] at h2
  subst h2
  exact ⟨v3', v4', v5', (for_ok (ds := rs.map rL) (by simp)).trans h1⟩
theorem ev_law_least {rs : List Rl} {b N : Nat} (g : Gd rs b N) (hs : ∀ r ∈ rs, ∀ x ∈ r.2, symB x) : F__law_least [.lst (rs.map rL)] = .ok (.fz (.dct false true (kvsD lW (least rs)))) := by
  unfold F__law_least runB b__law_least
  obtain ⟨e', h1, v2, v3, v4, v5, h2⟩ := for_inv (p := pName 2) (b := l3__law_least) (fun (i : Nat) => D.int i)
    (fun i e => ∃ v2 v3 v4 v5, e = [.val (.lst (rs.map rL)), .own (.dct false (kvsD lW (iterF rs i))), v2, v3, v4, v5]) (List.range (rs.length + 1)) 0
    [.val (.lst (rs.map rL)), .own (.dct false []), .no, .no, .no, .no] (fun i t e hi ⟨v2, v3, v4, v5, he⟩ => by
      rw [Nat.zero_add] at he ⊢
      subst he
      obtain ⟨v3', v4', v5', h⟩ := ll_pass g hs (St.iter g i) (.val (.int t)) v3 v4 v5
      exact ⟨_, _, rfl, .inl h, .val (.int t), v3', v4', v5', rfl⟩) ⟨.no, .no, .no, .no, rfl⟩
  rw [Nat.zero_add, List.length_range, least_lhs (Nat.le_succ _)] at h2
  subst h2
  have hR := g.R
  have hfor : mFor (mRng1 (mCons (m2 (mCall (mCons (mV 0) mNil) gLen) (mC (.int 1)) opAdd) mNil)) (pName 2) l3__law_least [.val (.lst (rs.map rL)), .own (.dct false []), .no, .no, .no, .no] = _ := (for_ok (rng1_ok (n := rs.length + 1) (by simp) (by omega))).trans h1
  simp [hfor, mNewD, mLock]
end LW
namespace LW
open PySem L2 DL
def rchX (X n : Str) (fd : List Str) (x : Str) : List Str := if n = X ∧ nmB x = true ∧ x ∉ fd then fd ++ [x] else fd
def rchR (X : Str) (fd : List Str) (r : Rl) : List Str := r.2.foldl (rchX X r.1) fd
def rchP (rs : List Rl) (X : Str) (fd : List Str) : List Str := rs.foldl (rchR X) fd
def fr (rs : List Rl) (s : Str) : Nat → List Str
  | 0 => [s]
  | i + 1 => match (fr rs s i)[i]? with
    | some X => rchP rs X (fr rs s i)
    | none => fr rs s i
structure Fd (m : List Str) (fd : List Str) : Prop where
  nd : fd.Nodup
  sub : ∀ x ∈ fd, x ∈ m
theorem Fd.len {m fd : List Str} (h : Fd m fd) : fd.length ≤ m.length := nodup_len h.nd h.sub
theorem rchX_fd {m fd : List Str} {X n x : Str} (h : Fd m fd) (hx : x ∈ m) : Fd m (rchX X n fd x) := by
  unfold rchX
  split
  · rename_i c
    refine ⟨List.nodup_append.mpr ⟨h.nd, by simp, fun a ha c' hc => ?_⟩, fun y hy => ?_⟩
    · rw [List.mem_singleton] at hc; subst hc; exact fun e => c.2.2 (by rw [← e]; exact ha)
    · rcases List.mem_append.mp hy with hy | hy
      · exact h.sub y hy
      · rw [List.mem_singleton] at hy; subst hy; exact hx
  · exact h
theorem rchX_pre (X n : Str) (fd : List Str) (x : Str) : ∃ t, rchX X n fd x = fd ++ t := by
  unfold rchX
  split
  · exact ⟨[x], rfl⟩
  · exact ⟨[], by simp⟩
theorem rchR_fd {m : List Str} {X n : Str} : ∀ (q : List Str) (fd : List Str), Fd m fd → (∀ x ∈ q, x ∈ m) → Fd m (q.foldl (rchX X n) fd) ∧ ∃ t, q.foldl (rchX X n) fd = fd ++ t
  | [], fd, h, _ => ⟨h, [], by simp⟩
  | x :: q, fd, h, hq => by
    rw [List.foldl_cons]
    obtain ⟨t, e⟩ := rchX_pre X n fd x
    obtain ⟨h1, t', e'⟩ := rchR_fd (X := X) (n := n) q (rchX X n fd x) (rchX_fd h (hq x List.mem_cons_self)) fun y hy => hq y (.tail _ hy)
    exact ⟨h1, t ++ t', by rw [e', e, List.append_assoc]⟩
theorem rchP_fd {m : List Str} {X : Str} : ∀ (rs : List Rl) (fd : List Str), Fd m fd → (∀ r ∈ rs, ∀ x ∈ r.2, x ∈ m) → Fd m (rchP rs X fd) ∧ ∃ t, rchP rs X fd = fd ++ t
  | [], fd, h, _ => ⟨h, [], by simp [rchP]⟩
  | r :: rs, fd, h, hq => by
    obtain ⟨h1, t, e⟩ := rchR_fd (X := X) (n := r.1) r.2 fd h (hq r List.mem_cons_self)
    obtain ⟨h2, t', e'⟩ := rchP_fd (X := X) rs (rchR X fd r) h1 fun y hy => hq y (.tail _ hy)
    refine ⟨h2, t ++ t', ?_⟩
    show rchP rs X (rchR X fd r) = _
    rw [e', show rchR X fd r = fd ++ t from e, List.append_assoc]
def allS (rs : List Rl) (s : Str) : List Str := s :: rs.flatMap (·.2)
theorem allS_in {rs : List Rl} {s : Str} : ∀ r ∈ rs, ∀ x ∈ r.2, x ∈ allS rs s := fun r hr x hx => .tail _ (List.mem_flatMap.mpr ⟨r, hr, hx⟩)
theorem fr_fd (rs : List Rl) (s : Str) : ∀ i, Fd (allS rs s) (fr rs s i)
  | 0 => ⟨by simp [fr], fun x hx => by
    have hx : x ∈ [s] := hx
    rw [List.mem_singleton] at hx; subst hx; exact List.mem_cons_self⟩
  | i + 1 => by
    unfold fr
    split
    · exact (rchP_fd rs _ (fr_fd rs s i) allS_in).1
    · exact fr_fd rs s i
theorem fr_stop {rs : List Rl} {s : Str} {i : Nat} (h : (fr rs s i).length ≤ i) : ∀ j, i ≤ j → fr rs s j = fr rs s i := by
  intro j
  induction j with
  | zero => intro hj; rw [Nat.le_zero.mp hj]
  | succ j ih =>
    intro hj
    rcases Nat.eq_or_lt_of_le hj with e | e
    · rw [← e]
    · have e1 := ih (Nat.le_of_lt_succ e)
      rw [fr, e1, List.getElem?_eq_none (by omega)]
def reach (rs : List Rl) (s : Str) : List Str := fr rs s (allS rs s).length
theorem reach_of {rs : List Rl} {s : Str} {i : Nat} (h : (fr rs s i).length ≤ i) : fr rs s i = reach rs s := by
  unfold reach
  have h2 := (fr_fd rs s (allS rs s).length).len
  rcases Nat.le_total i (allS rs s).length with k | k
  · exact (fr_stop h _ k).symm
  · exact fr_stop h2 _ k
theorem eq_str (a b : Str) : eqD (.str a) (.str b) = some (decide (a = b)) := rfl
theorem ro_l1 {v0 v1 v5 : SL} {fd : List Str} {i : Nat} {X n x : Str} (hx : okW x) (hi : fd[i]? = some X) (hl : fd.length ≤ 1000000) :
    l1_reached_names [v0, v1, .own (.lst (stD fd)), .val (.int i), .val (.str n), v5, .val (.str x)] = .nx [v0, v1, .own (.lst (stD (rchX X n fd x))), .val (.int i), .val (.str n), v5, .val (.str x)] := by
  have hix : atI (stD fd) (i : Int) = some (.str X) := atI_nat (by rw [List.getElem?_map, hi]; rfl)
  have hz : fd.length < sizeLine := Nat.lt_of_lt_of_le (by omega : fd.length < 1000001) (size_big (by decide))
  have hni := ni_strsO x fd false
  unfold l1_reached_names rchX
  by_cases h1 : n = X
  · cases h2 : nmB x with
    | true =>
      by_cases h3 : x ∈ fd
      · simp [hix, h1, ap_name hx, h2, hni, h3]
      · simp [hix, h1, ap_name hx, h2, hni, h3, mApp, hz]
    | false => simp [hix, h1, ap_name hx, h2]
  · simp [hix, h1]
theorem ro_l2 {v0 v1 : SL} {m : List Str} {i : Nat} {X n : Str} {q0 : SL} (hm : m.length ≤ 1000000) : ∀ (q : List Str) (fd : List Str) (v6 : SL), (∀ x ∈ q, okW x ∧ x ∈ m) → Fd m fd → fd[i]? = some X →
    ∃ v6', forF (pName 6) l1_reached_names (stD q) [v0, v1, .own (.lst (stD fd)), .val (.int i), .val (.str n), q0, v6] = .nx [v0, v1, .own (.lst (stD (q.foldl (rchX X n) fd))), .val (.int i), .val (.str n), q0, v6']
  | [], fd, v6, _, _, _ => ⟨v6, by simp [forF]⟩
  | x :: q, fd, v6, hq, hf, hi => by
    have h0 := hq x List.mem_cons_self
    have e := ro_l1 (v0 := v0) (v1 := v1) (v5 := q0) (n := n) h0.1 hi (by have := hf.len; omega)
    obtain ⟨t, ht⟩ := rchX_pre X n fd x
    obtain ⟨v6', k⟩ := ro_l2 (v0 := v0) (v1 := v1) (X := X) (n := n) (q0 := q0) hm q (rchX X n fd x) (.val (.str x)) (fun y hy => hq y (.tail _ hy)) (rchX_fd hf h0.2) (by
      rw [ht, List.getElem?_append_left (List.getElem?_eq_some_iff.mp hi).1]; exact hi)
    refine ⟨v6', ?_⟩
    rw [show stD (x :: q) = .str x :: stD q from rfl, forF]
    simp only [pName_e, List.set_cons_zero, List.set_cons_succ, e]
    rw [k, List.foldl_cons]
theorem foldl_take_succ {α β : Type} (f : β → α → β) (l : List α) (b : β) {i : Nat} {a : α} (h : l[i]? = some a) : (l.take (i + 1)).foldl f b = f ((l.take i).foldl f b) a := by
  rw [List.take_succ, h]
  simp
theorem rchP_take {m : List Str} {rs : List Rl} {X : Str} {fd : List Str} (hf : Fd m fd) (hq : ∀ r ∈ rs, ∀ x ∈ r.2, x ∈ m) (k : Nat) : Fd m ((rs.take k).foldl (rchR X) fd) ∧ ∃ t, (rs.take k).foldl (rchR X) fd = fd ++ t :=
  rchP_fd (rs.take k) fd hf fun r hr => hq r (List.mem_of_mem_take hr)
theorem ro_l3 {rs : List Rl} {b : Nat} (g : ∀ r ∈ rs, RuOk b r) {v1 : SL} {m fd : List Str} {i : Nat} {X : Str} (hm : m.length ≤ 1000000) (hq : ∀ r ∈ rs, ∀ x ∈ r.2, x ∈ m) (hf : Fd m fd) (hi : fd[i]? = some X) (v4 v5 v6 : SL) : ∃ v4' v5' v6',
    l3_reached_names [.val (.tup (rs.map rD)), v1, .own (.lst (stD fd)), .val (.int i), v4, v5, v6] = .nx [.val (.tup (rs.map rD)), v1, .own (.lst (stD (rchP rs X fd))), .val (.int (i + 1 : Nat)), v4', v5', v6'] := by
  obtain ⟨e', h1, v4', v5', v6', h2⟩ := for_inv (p := pTup (pCons (pName 4) (pCons (pName 5) pNil)) 2) (b := l2_reached_names) rD
    (fun k e => ∃ v4 v5 v6, e = [.val (.tup (rs.map rD)), v1, .own (.lst (stD ((rs.take k).foldl (rchR X) fd))), .val (.int i), v4, v5, v6]) rs 0
    [.val (.tup (rs.map rD)), v1, .own (.lst (stD fd)), .val (.int i), v4, v5, v6] (fun k r e hk ⟨v4, v5, v6, he⟩ => by
      rw [Nat.zero_add] at he ⊢
      subst he
      have hr : r ∈ rs := List.mem_of_getElem? hk
      obtain ⟨f1, t, f2⟩ := rchP_take (X := X) hf hq k
      obtain ⟨v6', h⟩ := ro_l2 (v0 := .val (.tup (rs.map rD))) (v1 := v1) (i := i) (X := X) (n := r.1) (q0 := .val (.tup (stD r.2))) hm r.2 _ v6 (fun x hx => ⟨(g r hr).sy x hx, hq r hr x hx⟩) f1 (by
        rw [f2, List.getElem?_append_left (List.getElem?_eq_some_iff.mp hi).1]; exact hi)
      refine ⟨_, [.val (.tup (rs.map rD)), v1, .own (.lst (stD (rchR X ((rs.take k).foldl (rchR X) fd) r))), .val (.int i), .val (.str r.1), .val (.tup (stD r.2)), v6'], pT2 4 5 (.str r.1) (.tup (stD r.2)) _, .inl ?_, .val (.str r.1), .val (.tup (stD r.2)), v6', by rw [foldl_take_succ (rchR X) rs fd hk]⟩
      unfold l2_reached_names
      exact (for_ok (ds := stD r.2) (by simp)).trans h) ⟨v4, v5, v6, rfl⟩
  rw [Nat.zero_add, List.take_length] at h2
  subst h2
  have hfor : mFor (mItems (mV 0)) (pTup (pCons (pName 4) (pCons (pName 5) pNil)) 2) l2_reached_names [.val (.tup (rs.map rD)), v1, .own (.lst (stD fd)), .val (.int i), v4, v5, v6] = _ := (for_ok (ds := rs.map rD) (by simp)).trans h1
  refine ⟨v4', v5', v6', ?_⟩
  unfold l3_reached_names
  rw [seq_ok hfor]
  have hc : (((i + 1 : Nat) : Int)) = (i : Int) + 1 := by omega
  rw [hc]
  unfold mAugI onE rchP
  rfl
theorem fr_succ {rs : List Rl} {s X : Str} {i : Nat} (h : (fr rs s i)[i]? = some X) : fr rs s (i + 1) = rchP rs X (fr rs s i) := by
  rw [fr, h]
theorem ev_reached {rs : List Rl} {b : Nat} (g : ∀ r ∈ rs, RuOk b r) {s : Str} (hm : (allS rs s).length ≤ 1000000) : F_reached_names [.tup (rs.map rD), .str s] = .ok (.ow false (.lst (stD (reach rs s)))) := by
  unfold F_reached_names runB b_reached_names
  have h1 : (1 : Nat) ≤ sizeLine := size1
  obtain ⟨j, e', w1, ⟨v4, v5, v6, w2⟩, w3, w4⟩ := wh_rel (c := w1_reached_names) (b := l3_reached_names)
    (fun i e => ∃ v4 v5 v6, e = [.val (.tup (rs.map rD)), .val (.str s), .own (.lst (stD (fr rs s i))), .val (.int i), v4, v5, v6]) (fun i => decide (i < (fr rs s i).length)) (allS rs s).length
    (by have := (fr_fd rs s (allS rs s).length).len; simp; omega)
    (fun i e ⟨v4, v5, v6, he⟩ => by subst he; unfold w1_reached_names; simp)
    (fun i e ⟨v4, v5, v6, he⟩ hk => by
      subst he
      have hl : i < (fr rs s i).length := by simpa using hk
      have hX : (fr rs s i)[i]? = some (fr rs s i)[i] := List.getElem?_eq_getElem hl
      obtain ⟨v4', v5', v6', h⟩ := ro_l3 g (v1 := .val (.str s)) hm allS_in (fr_fd rs s i) hX v4 v5 v6
      refine ⟨_, .inl h, v4', v5', v6', ?_⟩
      rw [fr_succ hX])
    fuel 0 [.val (.tup (rs.map rD)), .val (.str s), .own (.lst (stD [s])), .val (.int 0), .no, .no, .no] (Nat.zero_le _) (fuel_big (by omega)) ⟨.no, .no, .no, rfl⟩
  have hj : fr rs s j = reach rs s := reach_of (by simpa using w3)
  rw [hj] at w2
  have hw : mWhile w1_reached_names l3_reached_names [.val (.tup (rs.map rD)), .val (.str s), .own (.lst [.str s]), .val (.int 0), .no, .no, .no] = .nx e' := w1
  subst w2
  simp [hw, allFz, h1]
theorem nm_sg {x : Str} (h : symB x) : (!sgB x) = nmB x := by
  rcases h with h | h
  · rw [sg_nm h, h]; rfl
  · rw [h]
    cases hs : sgB x with
    | false => rfl
    | true => rw [sg_nm hs] at h; cases h
theorem rl_l1 {v0 : SL} {fd : List Str} {i : Nat} {X x : Str} {r : Rl} (hx : okW x) (hs : symB x) (hi : fd[i]? = some X) (hl : fd.length ≤ 1000000) :
    l1__law_reached [v0, .own (.lst (stD fd)), .val (.int i), .val (rL r), .val (.str x)] = .nx [v0, .own (.lst (stD (rchX X r.1 fd x))), .val (.int i), .val (rL r), .val (.str x)] := by
  have hix : atI (stD fd) (i : Int) = some (.str X) := atI_nat (by rw [List.getElem?_map, hi]; rfl)
  have hz : fd.length < sizeLine := Nat.lt_of_lt_of_le (by omega : fd.length < 1000001) (size_big (by decide))
  have hni := ni_strsO x fd false
  have e0 : ixD (.fz (rL r)) (.fz (.int 0)) = some (.str r.1) := rfl
  have hnm := ap_law_name hx hs
  rw [nm_sg hs] at hnm
  unfold l1__law_reached rchX
  by_cases h1 : r.1 = X
  · cases h2 : nmB x with
    | true =>
      by_cases h3 : x ∈ fd
      · simp [hix, e0, h1, hnm, h2, hni, h3]
      · simp [hix, e0, h1, hnm, h2, hni, h3, mApp, hz]
    | false => simp [hix, e0, h1, hnm, h2]
  · simp [hix, e0, h1]
theorem rl_l2 {v0 : SL} {m : List Str} {i : Nat} {X : Str} {r : Rl} (hm : m.length ≤ 1000000) : ∀ (q : List Str) (fd : List Str) (v4 : SL), (∀ x ∈ q, okW x ∧ symB x ∧ x ∈ m) → Fd m fd → fd[i]? = some X →
    ∃ v4', forF (pName 4) l1__law_reached (stD q) [v0, .own (.lst (stD fd)), .val (.int i), .val (rL r), v4] = .nx [v0, .own (.lst (stD (q.foldl (rchX X r.1) fd))), .val (.int i), .val (rL r), v4']
  | [], fd, v4, _, _, _ => ⟨v4, by simp [forF]⟩
  | x :: q, fd, v4, hq, hf, hi => by
    have h0 := hq x List.mem_cons_self
    have e := rl_l1 (v0 := v0) (r := r) h0.1 h0.2.1 hi (by have := hf.len; omega)
    obtain ⟨t, ht⟩ := rchX_pre X r.1 fd x
    obtain ⟨v4', k⟩ := rl_l2 (v0 := v0) (X := X) (r := r) hm q (rchX X r.1 fd x) (.val (.str x)) (fun y hy => hq y (.tail _ hy)) (rchX_fd hf h0.2.2) (by
      rw [ht, List.getElem?_append_left (List.getElem?_eq_some_iff.mp hi).1]; exact hi)
    refine ⟨v4', ?_⟩
    rw [show stD (x :: q) = .str x :: stD q from rfl, forF]
    simp only [pName_e, List.set_cons_zero, List.set_cons_succ, e]
    rw [k, List.foldl_cons]
theorem rl_l3 {rs : List Rl} {b : Nat} (g : ∀ r ∈ rs, RuOk b r) (hs : ∀ r ∈ rs, ∀ x ∈ r.2, symB x) {m fd : List Str} {i : Nat} {X : Str} (hm : m.length ≤ 1000000) (hq : ∀ r ∈ rs, ∀ x ∈ r.2, x ∈ m) (hf : Fd m fd) (hi : fd[i]? = some X) (v3 v4 : SL) : ∃ v3' v4',
    l3__law_reached [.val (.lst (rs.map rL)), .own (.lst (stD fd)), .val (.int i), v3, v4] = .nx [.val (.lst (rs.map rL)), .own (.lst (stD (rchP rs X fd))), .val (.int (i + 1 : Nat)), v3', v4'] := by
  obtain ⟨e', h1, v3', v4', h2⟩ := for_inv (p := pName 3) (b := l2__law_reached) rL
    (fun k e => ∃ v3 v4, e = [.val (.lst (rs.map rL)), .own (.lst (stD ((rs.take k).foldl (rchR X) fd))), .val (.int i), v3, v4]) rs 0
    [.val (.lst (rs.map rL)), .own (.lst (stD fd)), .val (.int i), v3, v4] (fun k r e hk ⟨v3, v4, he⟩ => by
      rw [Nat.zero_add] at he ⊢
      subst he
      have hr : r ∈ rs := List.mem_of_getElem? hk
      obtain ⟨f1, t, f2⟩ := rchP_take (X := X) hf hq k
      obtain ⟨v4', h⟩ := rl_l2 (v0 := .val (.lst (rs.map rL))) (i := i) (X := X) (r := r) hm r.2 _ v4 (fun x hx => ⟨(g r hr).sy x hx, hs r hr x hx, hq r hr x hx⟩) f1 (by
        rw [f2, List.getElem?_append_left (List.getElem?_eq_some_iff.mp hi).1]; exact hi)
      refine ⟨_, [.val (.lst (rs.map rL)), .own (.lst (stD (rchR X ((rs.take k).foldl (rchR X) fd) r))), .val (.int i), .val (rL r), v4'], rfl, .inl ?_, .val (rL r), v4', by rw [foldl_take_succ (rchR X) rs fd hk]⟩
      unfold l2__law_reached
      have e1 : ixD (.fz (rL r)) (.fz (.int 1)) = some (.lst (stD r.2)) := rfl
      exact (for_ok (ds := stD r.2) (by simp [e1])).trans h) ⟨v3, v4, rfl⟩
  rw [Nat.zero_add, List.take_length] at h2
  subst h2
  have hfor : mFor (mItems (mV 0)) (pName 3) l2__law_reached [.val (.lst (rs.map rL)), .own (.lst (stD fd)), .val (.int i), v3, v4] = _ := (for_ok (ds := rs.map rL) (by simp)).trans h1
  refine ⟨v3', v4', ?_⟩
  unfold l3__law_reached
  rw [seq_ok hfor]
  have hc : (((i + 1 : Nat) : Int)) = (i : Int) + 1 := by omega
  rw [hc]
  simp [rchP]
theorem ev_law_reached {rs : List Rl} {b : Nat} (g : ∀ r ∈ rs, RuOk b r) (hs : ∀ r ∈ rs, ∀ x ∈ r.2, symB x) {r0 : Rl} (h0 : rs[0]? = some r0) (hm : (allS rs r0.1).length ≤ 1000000) : F__law_reached [.lst (rs.map rL)] = .ok (.ow false (.lst (stD (reach rs r0.1)))) := by
  unfold F__law_reached runB b__law_reached
  obtain ⟨j, e', w1, ⟨v3, v4, w2⟩, w3, w4⟩ := wh_rel (c := w1__law_reached) (b := l3__law_reached)
    (fun i e => ∃ v3 v4, e = [.val (.lst (rs.map rL)), .own (.lst (stD (fr rs r0.1 i))), .val (.int i), v3, v4]) (fun i => decide (i < (fr rs r0.1 i).length)) (allS rs r0.1).length
    (by have := (fr_fd rs r0.1 (allS rs r0.1).length).len; simp; omega)
    (fun i e ⟨v3, v4, he⟩ => by subst he; unfold w1__law_reached; simp)
    (fun i e ⟨v3, v4, he⟩ hk => by
      subst he
      have hl : i < (fr rs r0.1 i).length := by simpa using hk
      have hX : (fr rs r0.1 i)[i]? = some (fr rs r0.1 i)[i] := List.getElem?_eq_getElem hl
      obtain ⟨v3', v4', h⟩ := rl_l3 g hs hm allS_in (fr_fd rs r0.1 i) hX v3 v4
      refine ⟨_, .inl h, v3', v4', ?_⟩
      rw [fr_succ hX])
    fuel 0 [.val (.lst (rs.map rL)), .own (.lst (stD [r0.1])), .val (.int 0), .no, .no] (Nat.zero_le _) (fuel_big (by omega)) ⟨.no, .no, rfl⟩
  have hj : fr rs r0.1 j = reach rs r0.1 := reach_of (by simpa using w3)
  rw [hj] at w2
  have hw : mWhile w1__law_reached l3__law_reached [.val (.lst (rs.map rL)), .own (.lst [.str r0.1]), .val (.int 0), .no, .no] = .nx e' := w1
  subst w2
  have ea : atI (rs.map rL) 0 = some (rL r0) := atI_nat (j := 0) (by rw [List.getElem?_map, h0]; rfl)
  have e0 : ixD (.fz (rL r0)) (.fz (.int 0)) = some (.str r0.1) := rfl
  simp [ea, e0, hw, allFz, size1]
end LW
namespace LW
open PySem L2 DL
def lead (fs ls : As) : List Str → List Str → Option (List Str)
  | [], acc => some (acc ++ [("$" : Str)])
  | x :: r, acc => if sgB x = true then some (acc ++ [x]) else match getA fs x, getA ls x with
    | some f, some w => if w.isEmpty = false then some (acc ++ f) else lead fs ls r (acc ++ f)
    | _, _ => none
def Told (fs ls : As) (q : List Str) : Prop := ∀ x ∈ q, sgB x = false → (∃ f, getA fs x = some f) ∧ ∃ w, getA ls x = some w
theorem lead_some {fs ls : As} : ∀ {q : List Str} (acc : List Str), Told fs ls q → ∃ l, lead fs ls q acc = some l
  | [], acc, _ => ⟨_, rfl⟩
  | x :: q, acc, h => by
    unfold lead
    by_cases hs : sgB x = true
    · rw [if_pos hs]; exact ⟨_, rfl⟩
    · rw [if_neg hs]
      obtain ⟨⟨f, hf⟩, w, hw⟩ := h x List.mem_cons_self (by simpa using hs)
      rw [hf, hw]
      dsimp only
      split
      · exact ⟨_, rfl⟩
      · exact lead_some _ fun y hy => h y (.tail _ hy)
theorem lead_mem {fs ls : As} {m : List Str} (hf : ∀ x f, getA fs x = some f → ∀ y ∈ f, y ∈ m) : ∀ {q acc l : List Str}, (∀ x ∈ q, x ∈ m) → (∀ x ∈ acc, x ∈ m) → lead fs ls q acc = some l → ∀ y ∈ l, y ∈ m ∨ y = "$"
  | [], acc, l, _, ha, h => by
    cases h
    intro y hy
    rcases List.mem_append.mp hy with hy | hy
    · exact .inl (ha y hy)
    · rw [List.mem_singleton] at hy; exact .inr hy
  | x :: q, acc, l, hq, ha, h => by
    unfold lead at h
    by_cases hs : sgB x = true
    · rw [if_pos hs] at h
      cases h
      intro y hy
      rcases List.mem_append.mp hy with hy | hy
      · exact .inl (ha y hy)
      · rw [List.mem_singleton] at hy; subst hy; exact .inl (hq _ List.mem_cons_self)
    · rw [if_neg hs] at h
      cases hg : getA fs x with
      | none => rw [hg] at h; cases h
      | some f =>
        cases hw : getA ls x with
        | none => rw [hg, hw] at h; cases h
        | some w =>
          rw [hg, hw] at h
          dsimp only at h
          have ha2 : ∀ y ∈ acc ++ f, y ∈ m := fun y hy => (List.mem_append.mp hy).elim (ha y) (hf x f hg y)
          split at h
          · cases h; exact fun y hy => .inl (ha2 y hy)
          · exact lead_mem hf (fun y hy => hq y (.tail _ hy)) ha2 h
theorem lead_for {v0 : SL} {fs ls : As} {t1 t2 : Bool} {F : Nat} (hF : ∀ x f, getA fs x = some f → f.length ≤ F) : ∀ (q acc : List Str) (v4 : SL), (∀ x ∈ q, okW x) → Told fs ls q → acc.length + q.length * F + 1 ≤ 16777216 →
    (∃ n l, forF (pName 4) l1_leading (stD q) [v0, .val (.dct false t1 (kvsD lW fs)), .val (.dct false t2 (kvsD tW ls)), .own (.lst (stD acc)), v4] = .ret (.ow n (.lst (stD l))) ∧ lead fs ls q acc = some l) ∨
    (∃ a v4', forF (pName 4) l1_leading (stD q) [v0, .val (.dct false t1 (kvsD lW fs)), .val (.dct false t2 (kvsD tW ls)), .own (.lst (stD acc)), v4] = .nx [v0, .val (.dct false t1 (kvsD lW fs)), .val (.dct false t2 (kvsD tW ls)), .own (.lst (stD a)), v4'] ∧ a.length + 1 ≤ 16777216 ∧ lead fs ls q acc = some (a ++ [("$" : Str)]))
  | [], acc, v4, _, _, hl => .inr ⟨acc, v4, by simp [forF], by omega, rfl⟩
  | x :: q, acc, v4, hq, ht, hl => by
    have hx := hq x List.mem_cons_self
    rw [List.length_cons, Nat.succ_mul] at hl
    rw [show stD (x :: q) = .str x :: stD q from rfl, forF, lead]
    simp only [pName_e, List.set_cons_zero, List.set_cons_succ]
    have hz1 : acc.length + 1 ≤ sizeLine := size_big (by omega)
    cases hs : sgB x with
    | true =>
      rw [if_pos rfl]
      refine .inl ⟨true, acc ++ [x], ?_, rfl⟩
      unfold l1_leading
      simp [ap_sign hx, hs, allFz, size1, hz1]
    | false =>
      rw [if_neg Bool.false_ne_true]
      obtain ⟨⟨f, hf⟩, w, hw⟩ := ht x List.mem_cons_self hs
      have hfl := hF x f hf
      have hz : acc.length + f.length ≤ sizeLine := size_big (by omega)
      have i1 := ix_kvs lW fs x (b := .fz (.dct false t1 (kvsD lW fs))) (t := t1) rfl hf
      have i2 := ix_kvs tW ls x (b := .fz (.dct false t2 (kvsD tW ls))) (t := t2) rfl hw
      rw [hf, hw]
      dsimp only
      have e : l1_leading [v0, .val (.dct false t1 (kvsD lW fs)), .val (.dct false t2 (kvsD tW ls)), .own (.lst (stD acc)), .val (.str x)] = if w.isEmpty = false then .ret (.ow false (.lst (stD (acc ++ f)))) else .nx [v0, .val (.dct false t1 (kvsD lW fs)), .val (.dct false t2 (kvsD tW ls)), .own (.lst (stD (acc ++ f))), .val (.str x)] := by
        unfold l1_leading
        have htr : truD (tW w) = some (!w.isEmpty) := by
          show some (!(stD w).isEmpty) = _
          cases w <;> rfl
        cases hwe : w.isEmpty with
        | true => simp [ap_sign hx, hs, i1, i2, lW, hz, mTr, htr, hwe]
        | false => simp [ap_sign hx, hs, i1, i2, lW, hz, mTr, htr, hwe]
      rw [e]
      cases hwe : w.isEmpty with
      | false =>
        rw [if_pos rfl, if_pos rfl]
        exact .inl ⟨false, acc ++ f, rfl, rfl⟩
      | true =>
        rw [if_neg (by simp), if_neg (by simp)]
        exact lead_for (v0 := v0) hF q (acc ++ f) (.val (.str x)) (fun y hy => hq y (.tail _ hy)) (fun y hy => ht y (.tail _ hy)) (by rw [List.length_append]; omega)
theorem ev_leading {fs ls : As} {t1 t2 : Bool} {F : Nat} (hF : ∀ x f, getA fs x = some f → f.length ≤ F) {q : List Str} (hq : ∀ x ∈ q, okW x) (ht : Told fs ls q) (hl : q.length * F + 1 ≤ 16777216) :
    ∃ n l, F_leading [.tup (stD q), .dct false t1 (kvsD lW fs), .dct false t2 (kvsD tW ls)] = .ok (.ow n (.lst (stD l))) ∧ lead fs ls q [] = some l := by
  unfold F_leading runB b_leading
  rcases lead_for (v0 := .val (.tup (stD q))) (t1 := t1) (t2 := t2) hF q [] .no hq ht (by simpa using hl) with ⟨n, l, h1, h2⟩ | ⟨a, v4', h1, h3, h2⟩
  · refine ⟨n, l, ?_, h2⟩
    have hfor : mFor (mItems (mV 0)) (pName 4) l1_leading [.val (.tup (stD q)), .val (.dct false t1 (kvsD lW fs)), .val (.dct false t2 (kvsD tW ls)), .own (.lst []), .no] = _ := (for_ok (ds := stD q) (by simp)).trans h1
    simp [hfor]
  · refine ⟨true, a ++ [("$" : Str)], ?_, h2⟩
    have hfor : mFor (mItems (mV 0)) (pName 4) l1_leading [.val (.tup (stD q)), .val (.dct false t1 (kvsD lW fs)), .val (.dct false t2 (kvsD tW ls)), .own (.lst []), .no] = _ := (for_ok (ds := stD q) (by simp)).trans h1
    have hz : a.length + 1 ≤ sizeLine := size_big h3
    simp [hfor, allFz, size1, hz]
def addF (n : Str) (s : As × Bool) (x : Str) : As × Bool := match getA s.1 n with
  | some f => if x ≠ "$" ∧ x ∉ f then (putA s.1 n (f ++ [x]), true) else s
  | none => s
def stepG (ls : As) (s : As × Bool) (r : Rl) : As × Bool := match lead s.1 ls r.2 [] with
  | some l => l.foldl (addF r.1) s
  | none => s
def passG (rs : List Rl) (ls fs : As) : As × Bool := rs.foldl (stepG ls) (fs, false)
def iterG (rs : List Rl) (ls : As) : Nat → As
  | 0 => ls.map fun p => (p.1, [])
  | i + 1 => (passG rs ls (iterG rs ls i)).1
def mu (fs : As) : Nat := (fs.map fun p => p.2.length).sum
theorem mu_put : ∀ (fs : As) (n : Str) (f : List Str) (x : Str), (fs.map (·.1)).Nodup → getA fs n = some f → mu (putA fs n (f ++ [x])) = mu fs + 1
  | [], n, f, x, _, h => by cases h
  | p :: fs, n, f, x, nd, h => by
    rw [List.map_cons] at nd
    obtain ⟨n1, n2⟩ := List.nodup_cons.mp nd
    have hp : putA (p :: fs) n (f ++ [x]) = (p :: fs).map (fun p => if p.1 = n then (p.1, f ++ [x]) else p) := by
      unfold putA
      rw [getA_any, h]; rfl
    rw [hp]
    rw [getA_cons] at h
    by_cases e : p.1 = n
    · rw [if_pos e] at h
      have e2 : fs.map (fun p => if p.1 = n then (p.1, f ++ [x]) else p) = fs := by
        have : ∀ q ∈ fs, (if q.1 = n then (q.1, f ++ [x]) else q) = q := fun q hq => by
          rw [if_neg (fun z => n1 (by rw [e, ← z]; exact List.mem_map.mpr ⟨q, hq, rfl⟩))]
        conv => rhs; rw [← List.map_id fs]
        exact List.map_congr_left this
      rw [List.map_cons, if_pos e, e2]
      unfold mu
      rw [List.map_cons, List.sum_cons, List.map_cons, List.sum_cons]
      have : p.2 = f := Option.some.inj h
      rw [this]; simp; omega
    · rw [if_neg e] at h
      have ih := mu_put fs n f x n2 h
      have hp2 : putA fs n (f ++ [x]) = fs.map (fun p => if p.1 = n then (p.1, f ++ [x]) else p) := by
        unfold putA
        rw [getA_any, h]; rfl
      rw [hp2] at ih
      rw [List.map_cons, if_neg e]
      unfold mu at *
      rw [List.map_cons, List.sum_cons, List.map_cons, List.sum_cons, ih]
      omega
structure Sg (m : List Str) (ls fs : As) : Prop where
  keys : fs.map (·.1) = ls.map (·.1)
  nd : ∀ x f, getA fs x = some f → f.Nodup
  sub : ∀ x f, getA fs x = some f → ∀ y ∈ f, y ∈ m
theorem Sg.len {m : List Str} {ls fs : As} (h : Sg m ls fs) (x : Str) (f : List Str) (e : getA fs x = some f) : f.length ≤ m.length := nodup_len (h.nd x f e) (h.sub x f e)
theorem Sg.bound {m : List Str} {ls fs : As} (h : Sg m ls fs) (nl : (ls.map (·.1)).Nodup) : mu fs ≤ ls.length * m.length := by
  have hl : fs.length = ls.length := by have := congrArg List.length h.keys; simpa using this
  rw [← hl]
  have hn : (fs.map (·.1)).Nodup := by rw [h.keys]; exact nl
  have key : ∀ fs : As, (∀ p ∈ fs, p.2.length ≤ m.length) → mu fs ≤ fs.length * m.length := by
    intro fs
    induction fs with
    | nil => intro _; simp [mu]
    | cons p fs ih =>
      intro h
      have h1 := h p List.mem_cons_self
      have h2 := ih fun q hq => h q (.tail _ hq)
      unfold mu at *
      rw [List.map_cons, List.sum_cons, List.length_cons, Nat.succ_mul]
      omega
  refine key fs fun p hp => ?_
  have get : ∀ {f : As}, (f.map (·.1)).Nodup → ∀ {x : Str} {a : Wd}, (x, a) ∈ f → getA f x = some a := by
    intro f
    induction f with
    | nil => intro _ x a h; cases h
    | cons p f ih =>
      intro nd x a hm
      rw [List.map_cons] at nd
      obtain ⟨n1, n2⟩ := List.nodup_cons.mp nd
      rw [getA_cons]
      rcases List.mem_cons.mp hm with hm | hm
      · rw [← hm]; simp
      · have hx : x ∈ f.map (·.1) := List.mem_map.mpr ⟨_, hm, rfl⟩
        rw [if_neg (fun e => n1 (by rw [e]; exact hx))]
        exact ih n2 hm
  exact h.len p.1 p.2 (get hn hp)
theorem keys_put {fs : As} {n : Str} {f : List Str} (w : List Str) (h : getA fs n = some f) : (putA fs n w).map (·.1) = fs.map (·.1) := by
  rw [putA_keys, if_pos (List.mem_map.mpr ⟨_, getA_mem h, rfl⟩)]
theorem Sg.add {m : List Str} {ls : As} {s : As × Bool} (h : Sg m ls s.1) (nl : (ls.map (·.1)).Nodup) {n x : Str} (hx : x ∈ m ∨ x = "$") : Sg m ls (addF n s x).1 ∧ ((addF n s x = s) ∨ ((addF n s x).2 = true ∧ mu (addF n s x).1 = mu s.1 + 1)) := by
  unfold addF
  cases hg : getA s.1 n with
  | none => exact ⟨h, .inl rfl⟩
  | some f =>
    dsimp only
    split
    · rename_i c
      refine ⟨⟨?_, fun y g e => ?_, fun y g e z hz => ?_⟩, .inr ⟨rfl, mu_put s.1 n f x (by rw [h.keys]; exact nl) hg⟩⟩
      · show (putA s.1 n (f ++ [x])).map (·.1) = _
        rw [keys_put _ hg]; exact h.keys
      · have e : getA (putA s.1 n (f ++ [x])) y = some g := e
        rw [getA_put] at e
        split at e
        · cases e
          exact List.nodup_append.mpr ⟨h.nd n f hg, by simp, fun a ha b hb => by rw [List.mem_singleton] at hb; subst hb; exact fun z => c.2 (by rw [← z]; exact ha)⟩
        · exact h.nd y g e
      · have e : getA (putA s.1 n (f ++ [x])) y = some g := e
        rw [getA_put] at e
        split at e
        · cases e
          rcases List.mem_append.mp hz with hz | hz
          · exact h.sub n f hg z hz
          · rw [List.mem_singleton] at hz
            subst hz
            exact hx.elim id fun k => absurd k c.1
        · exact h.sub y g e z hz
    · exact ⟨h, .inl rfl⟩
theorem Sg.adds {m : List Str} {ls : As} (nl : (ls.map (·.1)).Nodup) {n : Str} : ∀ (l : List Str) (s : As × Bool), Sg m ls s.1 → (∀ x ∈ l, x ∈ m ∨ x = "$") → Sg m ls (l.foldl (addF n) s).1 ∧ ((l.foldl (addF n) s = s) ∨ ((l.foldl (addF n) s).2 = true ∧ mu s.1 < mu (l.foldl (addF n) s).1))
  | [], s, h, _ => ⟨h, .inl rfl⟩
  | x :: l, s, h, hl => by
    rw [List.foldl_cons]
    obtain ⟨h1, h2⟩ := h.add nl (n := n) (hl x List.mem_cons_self)
    obtain ⟨h3, h4⟩ := Sg.adds nl (n := n) l (addF n s x) h1 fun y hy => hl y (.tail _ hy)
    refine ⟨h3, ?_⟩
    rcases h4 with h4 | ⟨h4, h5⟩
    · rw [h4]
      rcases h2 with h2 | ⟨h2, h6⟩
      · exact .inl h2
      · exact .inr ⟨h2, by omega⟩
    · rcases h2 with h2 | ⟨h2, h6⟩
      · rw [h2] at h4 h5 ⊢; exact .inr ⟨h4, h5⟩
      · exact .inr ⟨h4, by omega⟩
theorem Sg.step {m : List Str} {ls : As} (nl : (ls.map (·.1)).Nodup) {s : As × Bool} (h : Sg m ls s.1) {r : Rl} (hr : ∀ x ∈ r.2, x ∈ m) : Sg m ls (stepG ls s r).1 ∧ ((stepG ls s r = s) ∨ ((stepG ls s r).2 = true ∧ mu s.1 < mu (stepG ls s r).1)) := by
  unfold stepG
  cases hl : lead s.1 ls r.2 [] with
  | none => exact ⟨h, .inl rfl⟩
  | some l => exact Sg.adds nl l s h (lead_mem h.sub hr (fun x hx => by cases hx) hl)
theorem Sg.fold {m : List Str} {ls : As} (nl : (ls.map (·.1)).Nodup) : ∀ (l : List Rl) (s : As × Bool), Sg m ls s.1 → (∀ r ∈ l, ∀ x ∈ r.2, x ∈ m) → Sg m ls (l.foldl (stepG ls) s).1 ∧ ((l.foldl (stepG ls) s = s) ∨ ((l.foldl (stepG ls) s).2 = true ∧ mu s.1 < mu (l.foldl (stepG ls) s).1))
  | [], s, h, _ => ⟨h, .inl rfl⟩
  | r :: l, s, h, hl => by
    rw [List.foldl_cons]
    obtain ⟨h1, h2⟩ := h.step nl (hl r List.mem_cons_self)
    obtain ⟨h3, h4⟩ := Sg.fold nl l (stepG ls s r) h1 fun y hy => hl y (.tail _ hy)
    refine ⟨h3, ?_⟩
    rcases h4 with h4 | ⟨h4, h5⟩
    · rw [h4]
      rcases h2 with h2 | ⟨h2, h6⟩
      · exact .inl h2
      · exact .inr ⟨h2, h6⟩
    · rcases h2 with h2 | ⟨h2, h6⟩
      · rw [h2] at h4 h5 ⊢; exact .inr ⟨h4, h5⟩
      · exact .inr ⟨h4, by omega⟩
abbrev allR (rs : List Rl) : List Str := rs.flatMap (·.2)
theorem allR_in {rs : List Rl} : ∀ r ∈ rs, ∀ x ∈ r.2, x ∈ allR rs := fun r hr x hx => List.mem_flatMap.mpr ⟨r, hr, hx⟩
theorem getA_new (ls : As) (x : Str) : getA (ls.map fun p => (p.1, ([] : List Str))) x = (getA ls x).map fun _ => [] := by
  induction ls with
  | nil => rfl
  | cons p ls ih =>
    rw [List.map_cons, getA_cons, getA_cons, ih]
    by_cases e : p.1 = x <;> simp [e]
theorem Sg.iter {rs : List Rl} {ls : As} (nl : (ls.map (·.1)).Nodup) : ∀ i, Sg (allR rs) ls (iterG rs ls i)
  | 0 => ⟨by show (ls.map fun p => (p.1, ([] : List Str))).map (·.1) = _; rw [List.map_map]; rfl, fun x f e => by
      have e : getA (ls.map fun p => (p.1, ([] : List Str))) x = some f := e
      rw [getA_new] at e
      cases hg : getA ls x with
      | none => rw [hg] at e; cases e
      | some w => rw [hg] at e; cases e; exact List.nodup_nil, fun x f e y hy => by
      have e : getA (ls.map fun p => (p.1, ([] : List Str))) x = some f := e
      rw [getA_new] at e
      cases hg : getA ls x with
      | none => rw [hg] at e; cases e
      | some w => rw [hg] at e; cases e; cases hy⟩
  | i + 1 => (Sg.fold nl rs (iterG rs ls i, false) (Sg.iter nl i) allR_in).1
theorem passG_or {rs : List Rl} {ls : As} (nl : (ls.map (·.1)).Nodup) (i : Nat) : passG rs ls (iterG rs ls i) = (iterG rs ls i, false) ∨ ((passG rs ls (iterG rs ls i)).2 = true ∧ mu (iterG rs ls i) < mu (iterG rs ls (i + 1))) :=
  (Sg.fold nl rs (iterG rs ls i, false) (Sg.iter nl i) allR_in).2
theorem iterG_stop {rs : List Rl} {ls : As} {i : Nat} (h : passG rs ls (iterG rs ls i) = (iterG rs ls i, false)) : ∀ j, i ≤ j → iterG rs ls j = iterG rs ls i := by
  intro j
  induction j with
  | zero => intro hj; rw [Nat.le_zero.mp hj]
  | succ j ih =>
    intro hj
    rcases Nat.eq_or_lt_of_le hj with e | e
    · rw [← e]
    · show (passG rs ls (iterG rs ls j)).1 = _
      rw [ih (Nat.le_of_lt_succ e), h]
def capG (rs : List Rl) (ls : As) : Nat := ls.length * (allR rs).length + 1
theorem flagG_end {rs : List Rl} {ls : As} (nl : (ls.map (·.1)).Nodup) : passG rs ls (iterG rs ls (capG rs ls)) = (iterG rs ls (capG rs ls), false) := by
  rcases passG_or (rs := rs) nl (capG rs ls) with h | ⟨h, _⟩
  · exact h
  · exfalso
    -- all earlier passes changed something
    have all : ∀ i, i ≤ capG rs ls → i ≤ mu (iterG rs ls i) := by
      intro i
      induction i with
      | zero => intro _; exact Nat.zero_le _
      | succ i ih =>
        intro hi
        rcases passG_or (rs := rs) nl i with k | ⟨_, k⟩
        · exfalso
          have e := iterG_stop k (capG rs ls) (by omega)
          rw [e, k] at h; cases h
        · have := ih (by omega); omega
    have h1 := all _ (Nat.le_refl _)
    have h2 := (Sg.iter (rs := rs) nl (capG rs ls)).bound nl
    unfold capG at h1 h2
    omega
def firsts (rs : List Rl) (ls : As) : As := iterG rs ls (capG rs ls)
theorem firsts_of {rs : List Rl} {ls : As} (nl : (ls.map (·.1)).Nodup) {i : Nat} (h : passG rs ls (iterG rs ls i) = (iterG rs ls i, false)) : iterG rs ls i = firsts rs ls := by
  unfold firsts
  rcases Nat.le_total i (capG rs ls) with k | k
  · exact (iterG_stop h _ k).symm
  · exact iterG_stop (flagG_end nl) _ k
end LW
namespace LW
open PySem L2 DL
def TR (rs : List Rl) (ls : As) : Prop := ∀ r ∈ rs, (∃ w, getA ls r.1 = some w) ∧ ∀ x ∈ r.2, sgB x = false → ∃ w, getA ls x = some w
theorem key_some {fs ls : As} (hk : fs.map (·.1) = ls.map (·.1)) {x : Str} (h : ∃ w, getA ls x = some w) : ∃ f, getA fs x = some f := by
  cases hg : getA fs x with
  | some f => exact ⟨f, rfl⟩
  | none =>
    obtain ⟨w, hw⟩ := h
    have := getA_none.mp hg
    rw [hk] at this
    exact absurd (List.mem_map.mpr ⟨_, getA_mem hw, rfl⟩) this
theorem fs_l1 {v0 v1 v5 : SL} {fs : As} {ch : Bool} {n x : Str} {f : List Str} (hg : getA fs n = some f) (hl : fs.length < sizeLine) (hf : f.length + 1 ≤ 16777216) :
    l1_first_signs [v0, v1, .own (.dct false (kvsD lW fs)), .val (.bl ch), .val (.str n), v5, .val (.str x)] = .nx [v0, v1, .own (.dct false (kvsD lW (addF n (fs, ch) x).1)), .val (.bl (addF n (fs, ch) x).2), .val (.str n), v5, .val (.str x)] := by
  have hix := ix_kvs lW fs n (b := .ow false (.dct false (kvsD lW fs))) (t := false) rfl hg
  have hni : opNi (.fz (.str x)) (.fz (lW f)) = .ok (.fz (.bl (!decide (x ∈ f)))) := ni_strsL x f
  have hz : f.length + 1 ≤ sizeLine := size_big hf
  have hlk : (kvsD lW fs).length < sizeLine := by rw [kvsD_length]; exact hl
  have e : addF n (fs, ch) x = if x ≠ "$" ∧ x ∉ f then (putA fs n (f ++ [x]), true) else (fs, ch) := by unfold addF; rw [show (fs, ch).1 = fs from rfl, hg]
  have hput : mPut 2 (mV 4) (m2 (m2 (mV 2) (mV 4) opIxK) (mLst (mCons (mV 6) mNil)) opAdd) [v0, v1, .own (.dct false (kvsD lW fs)), .val (.bl ch), .val (.str n), v5, .val (.str x)] = .nx [v0, v1, .own (.dct false (kvsD lW (putA fs n (f ++ [x])))), .val (.bl ch), .val (.str n), v5, .val (.str x)] := by
    have hv : (m2 (m2 (mV 2) (mV 4) opIxK) (mLst (mCons (mV 6) mNil)) opAdd) [v0, v1, .own (.dct false (kvsD lW fs)), .val (.bl ch), .val (.str n), v5, .val (.str x)] = .ok (.ow true (.lst (stD (f ++ [x])))) := by
      simp [hix, lW, allFz, size1, hz]
    rw [put_ok (a := .ow true (.lst (stD (f ++ [x])))) (d := lW (f ++ [x])) (k := .str n) (kvs := kvsD lW fs) hv rfl rfl rfl rfl hlk, dstore_kvs]
    rfl
  rw [e]
  unfold l1_first_signs
  by_cases h1 : x = "$"
  · subst h1
    simp
  · by_cases h2 : x ∈ f
    · simp [h1, hix, hni, h2]
    · have hc : (mAnd (mB (m2 (mV 6) (mC (.str "$")) opNe)) (mB (m2 (mV 6) (m2 (mV 2) (mV 4) opIxK) opNi))) [v0, v1, .own (.dct false (kvsD lW fs)), .val (.bl ch), .val (.str n), v5, .val (.str x)] = .ok true := by
        simp [h1, hix, hni, h2]
      rw [if_pos ⟨h1, h2⟩]
      simp only [mIfS_e, hc, if_true]
      rw [seq_ok hput]
      simp
theorem fs_l1s {v0 v1 v5 : SL} {m : List Str} {ls : As} (nl : (ls.map (·.1)).Nodup) {n : Str} (hn : ∃ w, getA ls n = some w) (hls : ls.length < 1000000) (hm : m.length ≤ 1000000) : ∀ (l : List Str) (s : As × Bool) (v6 : SL), Sg m ls s.1 → (∀ x ∈ l, x ∈ m ∨ x = "$") →
    ∃ v6', forF (pName 6) l1_first_signs (stD l) [v0, v1, .own (.dct false (kvsD lW s.1)), .val (.bl s.2), .val (.str n), v5, v6] = .nx [v0, v1, .own (.dct false (kvsD lW (l.foldl (addF n) s).1)), .val (.bl (l.foldl (addF n) s).2), .val (.str n), v5, v6']
  | [], s, v6, _, _ => ⟨v6, by simp [forF]⟩
  | x :: l, s, v6, h, hl => by
    obtain ⟨f, hf⟩ := key_some h.keys hn
    have hlen : s.1.length = ls.length := by have := congrArg List.length h.keys; simpa using this
    have e := fs_l1 (v0 := v0) (v1 := v1) (v5 := v5) (ch := s.2) (x := x) hf (Nat.lt_of_lt_of_le (by omega : s.1.length < 1000000) (size_big (by decide))) (by have := h.len n f hf; omega)
    obtain ⟨v6', i⟩ := fs_l1s (v0 := v0) (v1 := v1) (v5 := v5) nl hn hls hm l (addF n s x) (.val (.str x)) (h.add nl (hl x List.mem_cons_self)).1 fun y hy => hl y (.tail _ hy)
    refine ⟨v6', ?_⟩
    rw [show stD (x :: l) = .str x :: stD l from rfl, forF]
    simp only [pName_e, List.set_cons_zero, List.set_cons_succ, e]
    rw [show (s.1, s.2) = s from rfl, i, List.foldl_cons]
theorem ap_leading {fs ls : As} {F : Nat} (hF : ∀ x f, getA fs x = some f → f.length ≤ F) {q : List Str} (hq : ∀ x ∈ q, okW x) (ht : Told fs ls q) (hl : q.length * F + 1 ≤ 16777216) :
    ∃ l, appF F_leading [.fz (.tup (stD q)), .ow false (.dct false (kvsD lW fs)), .fz (.dct false true (kvsD tW ls))] = .ok (.ow true (.lst (stD l))) ∧ lead fs ls q [] = some l := by
  obtain ⟨n, l, h1, h2⟩ := ev_leading (t1 := false) (t2 := true) hF hq ht hl
  refine ⟨l, ?_, h2⟩
  unfold appF
  rw [show [EV.fz (.tup (stD q)), .ow false (.dct false (kvsD lW fs)), .fz (.dct false true (kvsD tW ls))].map EV.d = [.tup (stD q), .dct false false (kvsD lW fs), .dct false true (kvsD tW ls)] from rfl, h1]
  show (if false = true then _ else lend (.ow true (.lst (stD l)))) = _
  rw [if_neg Bool.false_ne_true]
  unfold lend
  dsimp only
  rw [pure_strs]; rfl
theorem fs_l2 {v0 : SL} {rs : List Rl} {b : Nat} (hb : ∀ r ∈ rs, RuOk b r) {ls : As} (nl : (ls.map (·.1)).Nodup) (tr : TR rs ls) (hls : ls.length < 1000000) (hm : (allR rs).length ≤ 1000000) (hbm : b * (allR rs).length + 1 ≤ 16777216) {s : As × Bool} (h : Sg (allR rs) ls s.1) {r : Rl} (hr : r ∈ rs) (v6 : SL) : ∃ v6',
    l2_first_signs [v0, .val (.dct false true (kvsD tW ls)), .own (.dct false (kvsD lW s.1)), .val (.bl s.2), .val (.str r.1), .val (.tup (stD r.2)), v6] = .nx [v0, .val (.dct false true (kvsD tW ls)), .own (.dct false (kvsD lW (stepG ls s r).1)), .val (.bl (stepG ls s r).2), .val (.str r.1), .val (.tup (stD r.2)), v6'] := by
  have ru := hb r hr
  have ht : Told s.1 ls r.2 := fun x hx hs => ⟨key_some h.keys ((tr r hr).2 x hx hs), (tr r hr).2 x hx hs⟩
  obtain ⟨l, h1, h2⟩ := ap_leading (fun x f e => h.len x f e) ru.sy ht (by
    have := Nat.mul_le_mul_right (allR rs).length ru.len
    omega)
  have e : stepG ls s r = l.foldl (addF r.1) s := by unfold stepG; rw [h2]
  obtain ⟨v6', h3⟩ := fs_l1s (v0 := v0) (v1 := .val (.dct false true (kvsD tW ls))) (v5 := .val (.tup (stD r.2))) nl (tr r hr).1 hls hm l s v6 h (lead_mem h.sub (allR_in r hr) (fun x hx => by cases hx) h2)
  refine ⟨v6', ?_⟩
  rw [e]
  unfold l2_first_signs
  exact (for_ok (ds := stD l) (by simp [h1])).trans h3
def midG (rs : List Rl) (ls fs : As) (i : Nat) : As × Bool := (rs.take i).foldl (stepG ls) (fs, false)
theorem fs_l3 {rs : List Rl} {b : Nat} (hb : ∀ r ∈ rs, RuOk b r) {ls : As} (nl : (ls.map (·.1)).Nodup) (tr : TR rs ls) (hls : ls.length < 1000000) (hm : (allR rs).length ≤ 1000000) (hbm : b * (allR rs).length + 1 ≤ 16777216) {fs : As} (h : Sg (allR rs) ls fs) (v3 v4 v5 v6 : SL) : ∃ v4' v5' v6',
    l3_first_signs [.val (.tup (rs.map rD)), .val (.dct false true (kvsD tW ls)), .own (.dct false (kvsD lW fs)), v3, v4, v5, v6] = .nx [.val (.tup (rs.map rD)), .val (.dct false true (kvsD tW ls)), .own (.dct false (kvsD lW (passG rs ls fs).1)), .val (.bl (passG rs ls fs).2), v4', v5', v6'] := by
  obtain ⟨e', h1, v4', v5', v6', h2⟩ := for_inv (p := pTup (pCons (pName 4) (pCons (pName 5) pNil)) 2) (b := l2_first_signs) rD
    (fun i e => ∃ v4 v5 v6, e = [.val (.tup (rs.map rD)), .val (.dct false true (kvsD tW ls)), .own (.dct false (kvsD lW (midG rs ls fs i).1)), .val (.bl (midG rs ls fs i).2), v4, v5, v6]) rs 0
    [.val (.tup (rs.map rD)), .val (.dct false true (kvsD tW ls)), .own (.dct false (kvsD lW fs)), .val (.bl false), v4, v5, v6] (fun i r e hi ⟨v4, v5, v6, he⟩ => by
      rw [Nat.zero_add] at he ⊢
      subst he
      have hr : r ∈ rs := List.mem_of_getElem? hi
      have hs : Sg (allR rs) ls (midG rs ls fs i).1 := (Sg.fold nl (rs.take i) (fs, false) h fun q hq => allR_in q (List.mem_of_mem_take hq)).1
      obtain ⟨v6', k⟩ := fs_l2 (v0 := .val (.tup (rs.map rD))) hb nl tr hls hm hbm hs hr v6
      exact ⟨_, _, pT2 4 5 (.str r.1) (.tup (stD r.2)) _, .inl k, .val (.str r.1), .val (.tup (stD r.2)), v6', by rw [show midG rs ls fs (i + 1) = stepG ls (midG rs ls fs i) r from foldl_take_succ (stepG ls) rs (fs, false) hi]⟩) ⟨v4, v5, v6, rfl⟩
  rw [Nat.zero_add, show midG rs ls fs rs.length = passG rs ls fs by unfold midG passG; rw [List.take_length]] at h2
  subst h2
  have hfor : mFor (mItems (mV 0)) (pTup (pCons (pName 4) (pCons (pName 5) pNil)) 2) l2_first_signs [.val (.tup (rs.map rD)), .val (.dct false true (kvsD tW ls)), .own (.dct false (kvsD lW fs)), .val (.bl false), v4, v5, v6] = _ := (for_ok (ds := rs.map rD) (by simp)).trans h1
  refine ⟨v4', v5', v6', ?_⟩
  unfold l3_first_signs
  simp only [mSeq_e, mSetF_e, mC_e, stF_fz, List.set_cons_zero, List.set_cons_succ, hfor]
theorem dc_new {env : DL.Env} (hl : 4 < env.length) : ∀ (ks : List Str) (acc : As), (acc.map (·.1) ++ ks).Nodup → acc.length + ks.length ≤ 16777215 →
    dcF (pName 4) mYes e1_first_signs e2_first_signs env (stD ks) (kvsD lW acc) = .ok (kvsD lW (acc ++ ks.map fun x => (x, ([] : List Str))))
  | [], acc, _, _ => by simp [dcF]
  | x :: ks, acc, nd, hz => by
    have hx : getA acc x = none := by
      rw [getA_none]
      intro h
      have := (List.nodup_append.mp nd).2.2 x h x List.mem_cons_self
      exact this rfl
    have hs : acc.length < sizeLine := by
      rw [List.length_cons] at hz
      exact Nat.lt_of_lt_of_le (by omega : acc.length < 16777216) (size_big (by decide))
    have e1 : e1_first_signs (env.set 4 (.val (.str x))) = .ok (.fz (.str x)) := by
      unfold e1_first_signs
      simp [hl]
    have e2 : e2_first_signs (env.set 4 (.val (.str x))) = .ok (.ow true (.lst [])) := by unfold e2_first_signs; simp
    have ep : putA acc x ([] : List Str) = acc ++ [(x, [])] := by unfold putA; rw [getA_any, hx]; rfl
    have ed : dstore (kvsD lW acc) (.str x) (.lst []) = kvsD lW (acc ++ [(x, [])]) := by
      rw [← ep]; exact dstore_kvs lW acc x []
    rw [show stD (x :: ks) = .str x :: stD ks from rfl, dcF]
    simp only [pName_e, mYes, e1, e2, EV.fr_new, OW.d_lst, isKeyD_str, kvsD_length, hs, and_self, if_true, ed]
    rw [dc_new hl ks (acc ++ [(x, [])]) (by simpa using nd) (by rw [List.length_append]; rw [List.length_cons] at hz; simp; omega)]
    simp
theorem ev_first_signs {rs : List Rl} {b : Nat} (hb : ∀ r ∈ rs, RuOk b r) {ls : As} (nl : (ls.map (·.1)).Nodup) (tr : TR rs ls) (hls : ls.length < 100000) (hm : (allR rs).length ≤ 1000000) (hbm : b * (allR rs).length + 1 ≤ 16777216) : F_first_signs [.tup (rs.map rD), .dct false true (kvsD tW ls)] = .ok (.fz (.dct false true (kvsD lW (firsts rs ls)))) := by
  unfold F_first_signs runB b_first_signs
  let fl : Nat → Bool := fun i => match i with
    | 0 => true
    | i + 1 => (passG rs ls (iterG rs ls i)).2
  have hcap : capG rs ls + 1 < 1000000000000 := by
    unfold capG
    have := Nat.mul_le_mul (Nat.le_of_lt hls) hm
    omega
  obtain ⟨j, e', w1, ⟨v4, v5, v6, w2⟩, w3, w4⟩ := wh_rel (c := w1_first_signs) (b := l3_first_signs)
    (fun i e => ∃ v4 v5 v6, e = [.val (.tup (rs.map rD)), .val (.dct false true (kvsD tW ls)), .own (.dct false (kvsD lW (iterG rs ls i))), .val (.bl (fl i)), v4, v5, v6]) fl (capG rs ls + 1)
    (by show (passG rs ls (iterG rs ls (capG rs ls))).2 = false; rw [flagG_end nl])
    (fun i e ⟨v4, v5, v6, he⟩ => by subst he; unfold w1_first_signs; simp)
    (fun i e ⟨v4, v5, v6, he⟩ _ => by
      subst he
      obtain ⟨v4', v5', v6', h⟩ := fs_l3 hb nl tr (by omega) hm hbm (Sg.iter (rs := rs) nl i) (.val (.bl (fl i))) v4 v5 v6
      exact ⟨_, .inl h, v4', v5', v6', rfl⟩)
    fuel 0 [.val (.tup (rs.map rD)), .val (.dct false true (kvsD tW ls)), .own (.dct false (kvsD lW (iterG rs ls 0))), .val (.bl true), .no, .no, .no] (Nat.zero_le _) (fuel_big (by omega)) ⟨.no, .no, .no, rfl⟩
  have hj : iterG rs ls j = firsts rs ls := by
    cases j with
    | zero => cases w3
    | succ i =>
      rcases passG_or (rs := rs) nl i with k | ⟨k, _⟩
      · rw [iterG_stop k (i + 1) (Nat.le_succ i)]
        exact firsts_of nl k
      · have w3 : (passG rs ls (iterG rs ls i)).2 = false := w3
        rw [k] at w3; cases w3
  rw [hj] at w2
  have hw : mWhile w1_first_signs l3_first_signs [.val (.tup (rs.map rD)), .val (.dct false true (kvsD tW ls)), .own (.dct false (kvsD lW (iterG rs ls 0))), .val (.bl true), .no, .no, .no] = .nx e' := w1
  have hd : (mDc (mItems (mV 1)) (pName 4) mYes e1_first_signs e2_first_signs [4]) [.val (.tup (rs.map rD)), .val (.dct false true (kvsD tW ls)), .no, .no, .no, .no, .no] = .ok (.ow true (.dct false (kvsD lW (iterG rs ls 0)))) := by
    unfold mDc
    have hi : mItems (mV 1) [.val (.tup (rs.map rD)), .val (.dct false true (kvsD tW ls)), .no, .no, .no, .no, .no] = .ok (stD (ls.map (·.1))) := by
      simp [kvsD]
    rw [hi]
    simp only [Rz.ok_bind]
    have := dc_new (env := wipeE [.val (.tup (rs.map rD)), .val (.dct false true (kvsD tW ls)), .no, .no, .no, .no, .no] [4]) (by simp [wipeE]) (ls.map (·.1)) [] (by simpa using nl) (by simp; omega)
    rw [show kvsD lW ([] : As) = [] from rfl] at this
    rw [this]
    have e : ([] : As) ++ (ls.map (·.1)).map (fun x => (x, ([] : List Str))) = iterG rs ls 0 := by
      rw [List.nil_append, List.map_map]; rfl
    rw [e]
  subst w2
  simp [hd, hw, mLock]
end LW
namespace LW
open PySem L2 DL
def isRule (r : Rl) : Bool := nmB r.1 && decide (r.2.length ≤ 4) && r.2.all fun x => nmB x || sgB x
def rI (t : Bool) (r : Rl) : D := .tup [.str r.1, if t = true then .tup (stD r.2) else .lst (stD r.2)]
def sI (t : Bool) (q : List Str) : D := if t = true then .tup (stD q) else .lst (stD q)
theorem andV_bl {a b : DL.Env → Rz EV} {E : DL.Env} {x y : Bool} (ha : a E = .ok (.fz (.bl x))) (hb : x = true → b E = .ok (.fz (.bl y))) : mAndV a b E = .ok (.fz (.bl (x && y))) := by
  rw [mAndV_e, ha]
  cases x with
  | false => rfl
  | true => simp [hb rfl]
theorem ev_is_rule {t : Bool} {r : Rl} (hn : okW r.1) (hs : ∀ x ∈ r.2, okW x) (hl : r.2.length ≤ 1000000) : F_is_rule [.str r.1, sI t r.2, .int 4] = .ok (.fz (.bl (isRule r))) := by
  unfold F_is_rule runB b_is_rule isRule
  have hn' := ap_name hn
  have hi : mItems (mV 1) [.val (.str r.1), .val (sI t r.2), .val (.int 4), .no] = .ok (stD r.2) := by
    unfold sI; cases t <;> simp
  have hlen : (mCall (mCons (mV 1) mNil) gLen) [.val (.str r.1), .val (sI t r.2), .val (.int 4), .no] = .ok (.fz (.int r.2.length)) := by
    unfold sI; cases t <;> simp
  have hlc : mLc (mItems (mV 1)) (pName 3) mYes e1_is_rule [3] [.val (.str r.1), .val (sI t r.2), .val (.int 4), .no] = .ok (.ow true (.lst ((r.2.map fun x => nmB x || sgB x).map .bl))) := by
    rw [List.map_map]
    refine mLc_all (en := D.str) (xs := r.2) hi (fun x hx => ?_) (size_big (by omega))
    unfold e1_is_rule
    refine ⟨.fz (.bl (nmB x || sgB x)), ?_, rfl⟩
    cases h : nmB x <;> simp [ap_name (hs x hx), ap_sign (hs x hx), h]
  have hall : gAll [.fz (.lst ((r.2.map fun x => nmB x || sgB x).map .bl))] = .ok (.fz (.bl (r.2.all fun x => nmB x || sgB x))) := by
    rw [gAll_map, List.all_map]; rfl
  have e3 : (mCall (mCons (mLc (mItems (mV 1)) (pName 3) mYes e1_is_rule [3]) mNil) gAll) [.val (.str r.1), .val (sI t r.2), .val (.int 4), .no] = .ok (.fz (.bl (r.2.all fun x => nmB x || sgB x))) := by
    rw [← hall]
    simp only [mCall_e, mCons_e, mNil_e, hlc, Rz.ok_bind, EV.fr_new, OW.d_lst]
  have e2 : (m2 (mCall (mCons (mV 1) mNil) gLen) (mV 2) opLe) [.val (.str r.1), .val (sI t r.2), .val (.int 4), .no] = .ok (.fz (.bl (decide (r.2.length ≤ 4)))) := by
    rw [m2_e, hlen]
    have : decide ((r.2.length : Int) ≤ 4) = decide (r.2.length ≤ 4) := decide_eq_decide.mpr (by omega)
    simp only [Rz.ok_bind, mV_e, List.getD_cons_succ, List.getD_cons_zero, rdSlot_val, opO_int, this]
  have e1 : (mFn F_is_name (mCons (mV 0) mNil) 1) [.val (.str r.1), .val (sI t r.2), .val (.int 4), .no] = .ok (.fz (.bl (nmB r.1))) := by simp [hn']
  have e := andV_bl e1 fun _ => andV_bl e2 fun _ => e3
  show (match mRet _ [.val (.str r.1), .val (sI t r.2), .val (.int 4), .no] with
    | .nx _ => Rz.ok (EV.fz .non)
    | .ret ev => .ok ev
    | .exc e _ => .exc e
    | _ => .stuck) = _
  rw [mRet_e, e, Bool.and_assoc]
theorem mLc_gen {it : DL.Env → Rz (List D)} {p : D → DL.Env → Rz DL.Env} {t : DL.Env → Rz Bool} {e : DL.Env → Rz EV} {vs : List Nat} {env : DL.Env} {α : Type} {en : α → D} {f : α → D} {k : α → Bool} {pe : α → DL.Env} {xs : List α} (hi : it env = .ok (xs.map en))
    (h : ∀ x ∈ xs, p (en x) (wipeE env vs) = .ok (pe x) ∧ t (pe x) = .ok (k x) ∧ (k x = true → ∃ ev, e (pe x) = .ok ev ∧ ev.fr = .fz (f x))) (hl : xs.length ≤ sizeLine) :
    mLc it p t e vs env = .ok (.ow true (.lst ((xs.filter k).map f))) := by
  unfold mLc
  rw [hi]
  simp only [Rz.ok_bind]
  rw [lc_map (pe := pe) (k := k) (f := f) xs [] h (by simpa using hl)]
  simp
theorem lc2_map {p : D → DL.Env → Rz DL.Env} {t : DL.Env → Rz Bool} {it1 : DL.Env → Rz (List D)} {p1 : D → DL.Env → Rz DL.Env} {t1 : DL.Env → Rz Bool} {e : DL.Env → Rz EV} {vs1 : List Nat} {env : DL.Env} {α : Type} {en : α → D} {g : α → List D} {pe : α → DL.Env} :
    ∀ (xs : List α) (acc : List D), acc.length + (xs.flatMap g).length ≤ sizeLine →
      (∀ x ∈ xs, p (en x) env = .ok (pe x) ∧ t (pe x) = .ok true ∧ ∃ ds, it1 (pe x) = .ok ds ∧ ∀ acc : List D, acc.length + (g x).length ≤ sizeLine → lcF p1 t1 e (wipeE (pe x) vs1) ds acc = .ok (acc ++ g x)) →
      lc2F p t it1 p1 t1 e vs1 env (xs.map en) acc = .ok (acc ++ xs.flatMap g)
  | [], acc, _, _ => by simp [lc2F]
  | x :: xs, acc, hl, h' => by
    obtain ⟨h1, h2, ds, h3, h4⟩ := h' x List.mem_cons_self
    rw [List.flatMap_cons, List.length_append] at hl
    rw [List.map_cons, lc2F, h1]
    dsimp only
    rw [h2]
    dsimp only
    rw [h3]
    dsimp only
    rw [h4 acc (by omega)]
    dsimp only
    rw [lc2_map xs (acc ++ g x) (by rw [List.length_append]; omega) (fun y hy => h' y (.tail _ hy)), List.flatMap_cons, List.append_assoc]
end LW
namespace LW
open PySem L2 DL
abbrev rsD (t : Bool) (rs : List Rl) : D := .lst (rs.map (rI t))
def badAt : Nat → List Rl → Option Nat
  | _, [] => none
  | n, r :: rs => if isRule r = true then badAt (n + 1) rs else some n
theorem badAt_none : ∀ (rs : List Rl) (n : Nat), (∀ r ∈ rs, isRule r = true) → badAt n rs = none
  | [], _, _ => rfl
  | r :: rs, n, h => by unfold badAt; rw [if_pos (h r List.mem_cons_self)]; exact badAt_none rs (n + 1) fun q hq => h q (.tail _ hq)
abbrev ruleE (n : Nat) : Exn := ⟨"RuleError", [("line", .int n)]⟩
abbrev pEn : D → DL.Env → Rz DL.Env := pTup (pCons (pName 2) (pCons (pTup (pCons (pName 3) (pCons (pName 4) pNil)) 2) pNil)) 2
theorem pEn_ok (n : Nat) (t : Bool) (r : Rl) (env : DL.Env) : pEn (.tup [.int n, rI t r]) env = .ok (((env.set 2 (.val (.int n))).set 3 (.val (.str r.1))).set 4 (.val (sI t r.2))) := rfl
structure OkR (r : Rl) : Prop where
  nm : okW r.1
  sy : ∀ x ∈ r.2, okW x
  len : r.2.length ≤ 1000000
theorem ap_is_rule {t : Bool} {r : Rl} (h : OkR r) : appF F_is_rule [.fz (.str r.1), .fz (sI t r.2), .fz (.int 4)] = .ok (.fz (.bl (isRule r))) := appF_fz (evs := [.fz (.str r.1), .fz (sI t r.2), .fz (.int 4)]) (ev_is_rule h.nm h.sy h.len) rfl
theorem gi_chk {t : Bool} {v0 v1 v5 v6 v7 v8 v9 v10 v11 : SL} : ∀ (rs : List Rl) (n : Nat) (v2 v3 v4 : SL), (∀ r ∈ rs, OkR r) → ∃ v2' v3' v4',
    forF pEn l1_Grammar_init (enumD n (rs.map (rI t))) [v0, v1, v2, v3, v4, v5, v6, v7, v8, v9, v10, v11] = match badAt n rs with
      | some i => .exc (ruleE i) [v0, v1, v2', v3', v4', v5, v6, v7, v8, v9, v10, v11]
      | none => .nx [v0, v1, v2', v3', v4', v5, v6, v7, v8, v9, v10, v11]
  | [], n, v2, v3, v4, _ => ⟨v2, v3, v4, rfl⟩
  | r :: rs, n, v2, v3, v4, h => by
    have e : l1_Grammar_init [v0, v1, .val (.int n), .val (.str r.1), .val (sI t r.2), v5, v6, v7, v8, v9, v10, v11] = if isRule r = true then .nx [v0, v1, .val (.int n), .val (.str r.1), .val (sI t r.2), v5, v6, v7, v8, v9, v10, v11] else .exc (ruleE n) [v0, v1, .val (.int n), .val (.str r.1), .val (sI t r.2), v5, v6, v7, v8, v9, v10, v11] := by
      unfold l1_Grammar_init
      have := ap_is_rule (t := t) (h r List.mem_cons_self)
      cases hr : isRule r <;> simp [this, hr, mRaise, allFz]
    rw [List.map_cons, enumD, forF, pEn_ok]
    simp only [List.set_cons_succ, List.set_cons_zero, e, badAt]
    cases hr : isRule r with
    | true =>
      obtain ⟨a, b, c, k⟩ := gi_chk (t := t) (v0 := v0) (v1 := v1) (v5 := v5) (v6 := v6) (v7 := v7) (v8 := v8) (v9 := v9) (v10 := v10) (v11 := v11) rs (n + 1) (.val (.int n)) (.val (.str r.1)) (.val (sI t r.2)) fun q hq => h q (.tail _ hq)
      exact ⟨a, b, c, by simpa using k⟩
    | false => exact ⟨.val (.int n), .val (.str r.1), .val (sI t r.2), by simp⟩
theorem gi_rules {t : Bool} {v0 v2 v3 v4 v5 v6 v7 v8 v9 v10 v11 : SL} {rs : List Rl} (hl : rs.length ≤ 1000000) :
    (mCall (mCons (mLc (mItems (mV 1)) (pTup (pCons (pName 3) (pCons (pName 4) pNil)) 2) mYes e1_Grammar_init [3, 4]) mNil) gTuple) [v0, .val (rsD t rs), v2, v3, v4, v5, v6, v7, v8, v9, v10, v11] = .ok (.fz (.tup (rs.map rD))) := by
  have h2 : (2 : Nat) ≤ sizeLine := size_big (by decide)
  have h := mLc_gen (it := mItems (mV 1)) (p := pTup (pCons (pName 3) (pCons (pName 4) pNil)) 2) (t := mYes) (e := e1_Grammar_init) (vs := [3, 4]) (env := [v0, .val (rsD t rs), v2, v3, v4, v5, v6, v7, v8, v9, v10, v11]) (en := rI t) (f := rD) (k := fun _ => true)
    (pe := fun r => [v0, .val (rsD t rs), v2, .val (.str r.1), .val (sI t r.2), v5, v6, v7, v8, v9, v10, v11]) (xs := rs) (by simp) (fun r hr => ⟨rfl, rfl, fun _ => ⟨.fz (rD r), by
      unfold e1_Grammar_init
      cases t <;> simp [sI, seqD, allFz, h2, rD], rfl⟩⟩) (size_big (by omega))
  rw [List.filter_eq_self.mpr (fun _ _ => rfl)] at h
  simp [h, seqD]
def wordsR (rs : List Rl) : List Str := rs.map (·.1) ++ allR rs
theorem gi_words {fs : List (Str × D)} {v1 v2 v3 v4 v5 v6 v7 v8 v9 v10 v11 : SL} {rs : List Rl} (hf : fs.lookup ("rules" : Str) = some (D.tup (rs.map rD))) (hl : rs.length + (allR rs).length ≤ 1000000) :
    (m2 (mLc (mItems (mFld ["Grammar"] "rules" (mV 0))) (pTup (pCons (pName 3) (pCons (pName 4) pNil)) 2) mYes e2_Grammar_init [3, 4]) (mLc2 (mItems (mFld ["Grammar"] "rules" (mV 0))) (pTup (pCons (pName 3) (pCons (pName 4) pNil)) 2) mYes (mItems (mV 4)) (pName 11) mYes e3_Grammar_init [3, 4, 11] [11]) opAdd) [.own (.self "Grammar" fs), v1, v2, v3, v4, v5, v6, v7, v8, v9, v10, v11] = .ok (.ow true (.lst (stD (wordsR rs)))) := by
  have hit : mItems (mFld ["Grammar"] "rules" (mV 0)) [.own (.self "Grammar" fs), v1, v2, v3, v4, v5, v6, v7, v8, v9, v10, v11] = .ok (rs.map rD) := by
    simp [fldD, hf]
  have h1 := mLc_gen (it := mItems (mFld ["Grammar"] "rules" (mV 0))) (p := pTup (pCons (pName 3) (pCons (pName 4) pNil)) 2) (t := mYes) (e := e2_Grammar_init) (vs := [3, 4]) (en := rD) (f := fun r => .str r.1) (k := fun _ => true)
    (pe := fun r => [.own (.self "Grammar" fs), v1, v2, .val (.str r.1), .val (.tup (stD r.2)), v5, v6, v7, v8, v9, v10, v11]) (xs := rs) hit (fun r hr => ⟨rfl, rfl, fun _ => ⟨.fz (.str r.1), by
      unfold e2_Grammar_init
      simp, rfl⟩⟩) (size_big (by omega))
  rw [List.filter_eq_self.mpr (fun _ _ => rfl)] at h1
  have hfm : rs.flatMap (fun r => stD r.2) = stD (allR rs) := by
    unfold allR stD
    rw [List.map_flatMap]
  have h2 := lc2_map (p := pTup (pCons (pName 3) (pCons (pName 4) pNil)) 2) (t := mYes) (it1 := mItems (mV 4)) (p1 := pName 11) (t1 := mYes) (e := e3_Grammar_init) (vs1 := [11]) (env := [.own (.self "Grammar" fs), v1, v2, .no, .no, v5, v6, v7, v8, v9, v10, .no]) (en := rD) (g := fun r => stD r.2)
    (pe := fun r => [.own (.self "Grammar" fs), v1, v2, .val (.str r.1), .val (.tup (stD r.2)), v5, v6, v7, v8, v9, v10, .no]) rs [] (by rw [hfm]; show 0 + (stD (allR rs)).length ≤ sizeLine; rw [List.length_map]; exact size_big (by omega)) (fun r hr => ⟨rfl, rfl, stD r.2, by simp, fun acc ha => by
      have := lc_map (p := pName 11) (t := mYes) (e := e3_Grammar_init) (env := [.own (.self "Grammar" fs), v1, v2, .val (.str r.1), .val (.tup (stD r.2)), v5, v6, v7, v8, v9, v10, .no]) (en := D.str) (f := D.str) (k := fun _ => true) (pe := fun x => [.own (.self "Grammar" fs), v1, v2, .val (.str r.1), .val (.tup (stD r.2)), v5, v6, v7, v8, v9, v10, .val (.str x)]) r.2 acc (fun x hx => ⟨rfl, rfl, fun _ => ⟨.fz (.str x), by unfold e3_Grammar_init; simp, rfl⟩⟩) (by simpa using ha)
      rw [List.filter_eq_self.mpr (fun _ _ => rfl)] at this
      exact this⟩)
  rw [hfm, List.nil_append] at h2
  have h3 : mLc2 (mItems (mFld ["Grammar"] "rules" (mV 0))) (pTup (pCons (pName 3) (pCons (pName 4) pNil)) 2) mYes (mItems (mV 4)) (pName 11) mYes e3_Grammar_init [3, 4, 11] [11] [.own (.self "Grammar" fs), v1, v2, v3, v4, v5, v6, v7, v8, v9, v10, v11] = .ok (.ow true (.lst (stD (allR rs)))) := by
    unfold mLc2
    rw [hit]
    simp only [Rz.ok_bind]
    rw [show wipeE [.own (.self "Grammar" fs), v1, v2, v3, v4, v5, v6, v7, v8, v9, v10, v11] [3, 4, 11] = [.own (.self "Grammar" fs), v1, v2, .no, .no, v5, v6, v7, v8, v9, v10, .no] from rfl, h2]
  have hz : rs.length + (allR rs).length ≤ sizeLine := size_big (by omega)
  rw [m2_e, h1, h3]
  simp only [Rz.ok_bind, opAdd_oo, List.length_map]
  rw [if_pos (by simpa using hz)]
  unfold wordsR stD
  rw [List.map_append, List.map_map]
  rfl
theorem gi_sort {t : DL.Env → Rz Bool} {e : DL.Env → Rz EV} {k : Str → Bool} {v0 v1 v2 v3 v4 v6 v7 v8 v9 v10 v11 : SL} {ws : List Str} (hl : ws.length < 4000)
    (ht : ∀ x ∈ ws, t [v0, v1, v2, v3, v4, .val (.lst (stD ws)), v6, v7, v8, v9, v10, .val (.str x)] = .ok (k x)) (he : ∀ x ∈ ws, e [v0, v1, v2, v3, v4, .val (.lst (stD ws)), v6, v7, v8, v9, v10, .val (.str x)] = .ok (.fz (.str x))) :
    (mCall (mCons (mSortSc (mItems (mV 5)) (pName 11) t e [11]) mNil) gTuple) [v0, v1, v2, v3, v4, .val (.lst (stD ws)), v6, v7, v8, v9, v10, v11] = .ok (.fz (.tup (stD (DS.sortU (ws.filter k))))) := by
  have h : mSortSc (mItems (mV 5)) (pName 11) t e [11] [v0, v1, v2, v3, v4, .val (.lst (stD ws)), v6, v7, v8, v9, v10, v11] = .ok (.ow true (.lst (stD (DS.sortU (ws.filter k))))) := by
    unfold mSortSc
    have hi : mItems (mV 5) [v0, v1, v2, v3, v4, .val (.lst (stD ws)), v6, v7, v8, v9, v10, v11] = .ok (stD ws) := by simp
    rw [hi]
    simp only [Rz.ok_bind]
    have := lc_map (p := pName 11) (t := t) (e := e) (env := [v0, v1, v2, v3, v4, .val (.lst (stD ws)), v6, v7, v8, v9, v10, .no]) (en := D.str) (f := D.str) (k := k) (pe := fun x => [v0, v1, v2, v3, v4, .val (.lst (stD ws)), v6, v7, v8, v9, v10, .val (.str x)]) ws [] (fun x hx => ⟨rfl, ht x hx, fun _ => ⟨.fz (.str x), he x hx, rfl⟩⟩) (by simp; exact size_big (by omega))
    rw [show wipeE [v0, v1, v2, v3, v4, .val (.lst (stD ws)), v6, v7, v8, v9, v10, v11] [11] = [v0, v1, v2, v3, v4, .val (.lst (stD ws)), v6, v7, v8, v9, v10, .no] from rfl, this, List.nil_append]
    dsimp only
    rw [strsD_map]
    dsimp only
    rw [if_pos (by rw [List.length_map]; exact hl)]
  simp [h, seqD]
end LW
namespace LW
open PySem L2 DL
theorem kb_rules_names : (("rules" : Str) == "names") = false := by decide +kernel
theorem ke_rules_names : (("rules" : Str) = "names") = False := eq_false (by decide +kernel)
theorem kb_rules_signs : (("rules" : Str) == "signs") = false := by decide +kernel
theorem ke_rules_signs : (("rules" : Str) = "signs") = False := eq_false (by decide +kernel)
theorem kb_rules_start : (("rules" : Str) == "start") = false := by decide +kernel
theorem ke_rules_start : (("rules" : Str) = "start") = False := eq_false (by decide +kernel)
theorem kb_rules_least : (("rules" : Str) == "least") = false := by decide +kernel
theorem ke_rules_least : (("rules" : Str) = "least") = False := eq_false (by decide +kernel)
theorem kb_rules_firsts : (("rules" : Str) == "firsts") = false := by decide +kernel
theorem ke_rules_firsts : (("rules" : Str) = "firsts") = False := eq_false (by decide +kernel)
theorem kb_names_rules : (("names" : Str) == "rules") = false := by decide +kernel
theorem ke_names_rules : (("names" : Str) = "rules") = False := eq_false (by decide +kernel)
theorem kb_names_signs : (("names" : Str) == "signs") = false := by decide +kernel
theorem ke_names_signs : (("names" : Str) = "signs") = False := eq_false (by decide +kernel)
theorem kb_names_start : (("names" : Str) == "start") = false := by decide +kernel
theorem ke_names_start : (("names" : Str) = "start") = False := eq_false (by decide +kernel)
theorem kb_names_least : (("names" : Str) == "least") = false := by decide +kernel
theorem ke_names_least : (("names" : Str) = "least") = False := eq_false (by decide +kernel)
theorem kb_names_firsts : (("names" : Str) == "firsts") = false := by decide +kernel
theorem ke_names_firsts : (("names" : Str) = "firsts") = False := eq_false (by decide +kernel)
theorem kb_signs_rules : (("signs" : Str) == "rules") = false := by decide +kernel
theorem ke_signs_rules : (("signs" : Str) = "rules") = False := eq_false (by decide +kernel)
theorem kb_signs_names : (("signs" : Str) == "names") = false := by decide +kernel
theorem ke_signs_names : (("signs" : Str) = "names") = False := eq_false (by decide +kernel)
theorem kb_signs_start : (("signs" : Str) == "start") = false := by decide +kernel
theorem ke_signs_start : (("signs" : Str) = "start") = False := eq_false (by decide +kernel)
theorem kb_signs_least : (("signs" : Str) == "least") = false := by decide +kernel
theorem ke_signs_least : (("signs" : Str) = "least") = False := eq_false (by decide +kernel)
theorem kb_signs_firsts : (("signs" : Str) == "firsts") = false := by decide +kernel
theorem ke_signs_firsts : (("signs" : Str) = "firsts") = False := eq_false (by decide +kernel)
theorem kb_start_rules : (("start" : Str) == "rules") = false := by decide +kernel
theorem ke_start_rules : (("start" : Str) = "rules") = False := eq_false (by decide +kernel)
theorem kb_start_names : (("start" : Str) == "names") = false := by decide +kernel
theorem ke_start_names : (("start" : Str) = "names") = False := eq_false (by decide +kernel)
theorem kb_start_signs : (("start" : Str) == "signs") = false := by decide +kernel
theorem ke_start_signs : (("start" : Str) = "signs") = False := eq_false (by decide +kernel)
theorem kb_start_least : (("start" : Str) == "least") = false := by decide +kernel
theorem ke_start_least : (("start" : Str) = "least") = False := eq_false (by decide +kernel)
theorem kb_start_firsts : (("start" : Str) == "firsts") = false := by decide +kernel
theorem ke_start_firsts : (("start" : Str) = "firsts") = False := eq_false (by decide +kernel)
theorem kb_least_rules : (("least" : Str) == "rules") = false := by decide +kernel
theorem ke_least_rules : (("least" : Str) = "rules") = False := eq_false (by decide +kernel)
theorem kb_least_names : (("least" : Str) == "names") = false := by decide +kernel
theorem ke_least_names : (("least" : Str) = "names") = False := eq_false (by decide +kernel)
theorem kb_least_signs : (("least" : Str) == "signs") = false := by decide +kernel
theorem ke_least_signs : (("least" : Str) = "signs") = False := eq_false (by decide +kernel)
theorem kb_least_start : (("least" : Str) == "start") = false := by decide +kernel
theorem ke_least_start : (("least" : Str) = "start") = False := eq_false (by decide +kernel)
theorem kb_least_firsts : (("least" : Str) == "firsts") = false := by decide +kernel
theorem ke_least_firsts : (("least" : Str) = "firsts") = False := eq_false (by decide +kernel)
theorem kb_firsts_rules : (("firsts" : Str) == "rules") = false := by decide +kernel
theorem ke_firsts_rules : (("firsts" : Str) = "rules") = False := eq_false (by decide +kernel)
theorem kb_firsts_names : (("firsts" : Str) == "names") = false := by decide +kernel
theorem ke_firsts_names : (("firsts" : Str) = "names") = False := eq_false (by decide +kernel)
theorem kb_firsts_signs : (("firsts" : Str) == "signs") = false := by decide +kernel
theorem ke_firsts_signs : (("firsts" : Str) = "signs") = False := eq_false (by decide +kernel)
theorem kb_firsts_start : (("firsts" : Str) == "start") = false := by decide +kernel
theorem ke_firsts_start : (("firsts" : Str) = "start") = False := eq_false (by decide +kernel)
theorem kb_firsts_least : (("firsts" : Str) == "least") = false := by decide +kernel
theorem ke_firsts_least : (("firsts" : Str) = "least") = False := eq_false (by decide +kernel)
theorem gi_raise {body : DL.Env → Out} {bad : Str → Bool} {E : Str → Exn} {v0 v1 v2 v4 v5 v6 v7 v8 v9 v10 v11 : SL} : ∀ (ns : List Str) (v3 : SL),
    (∀ x ∈ ns, body [v0, v1, v2, .val (.str x), v4, v5, v6, v7, v8, v9, v10, v11] = if bad x = true then .exc (E x) [v0, v1, v2, .val (.str x), v4, v5, v6, v7, v8, v9, v10, v11] else .nx [v0, v1, v2, .val (.str x), v4, v5, v6, v7, v8, v9, v10, v11]) →
    ∃ v3', forF (pName 3) body (stD ns) [v0, v1, v2, v3, v4, v5, v6, v7, v8, v9, v10, v11] = match ns.find? bad with
      | some x => .exc (E x) [v0, v1, v2, v3', v4, v5, v6, v7, v8, v9, v10, v11]
      | none => .nx [v0, v1, v2, v3', v4, v5, v6, v7, v8, v9, v10, v11]
  | [], v3, _ => ⟨v3, rfl⟩
  | x :: ns, v3, h => by
    rw [show stD (x :: ns) = .str x :: stD ns from rfl, forF, List.find?_cons]
    simp only [pName_e, List.set_cons_succ, List.set_cons_zero, h x List.mem_cons_self]
    cases hb : bad x with
    | true => exact ⟨.val (.str x), by simp⟩
    | false =>
      obtain ⟨v3', k⟩ := gi_raise (bad := bad) (E := E) ns (.val (.str x)) fun y hy => h y (.tail _ hy)
      exact ⟨v3', by simpa using k⟩
def namesG (rs : List Rl) : List Str := DS.sortU ((wordsR rs).filter nmB)
def signsG (rs : List Rl) : List Str := DS.sortU ((wordsR rs).filter sgB)
def startG (rs : List Rl) : Str := match rs with
  | r :: _ => r.1
  | [] => ""
abbrev gFs (rs : List Rl) : List (Str × D) := [("rules", .tup (rs.map rD)), ("names", .tup (stD (namesG rs))), ("signs", .tup (stD (signsG rs))), ("start", .str (startG rs)), ("least", .dct false true (kvsD tW (least rs))), ("firsts", .dct false true (kvsD lW (firsts rs (least rs))))]
abbrev barE (x : Str) : Exn := ⟨"Barren", [("name", .str x)]⟩
abbrev unrE (x : Str) : Exn := ⟨"Unreached", [("name", .str x)]⟩
abbrev bigE (x : Str) : Exn := ⟨"TooLarge", [("what", .str x)]⟩
def gRes (rs : List Rl) : Rz (List (Str × D)) := match (namesG rs).find? (fun x => (getA (least rs) x).isNone) with
  | some x => .exc (barE x)
  | none => match (namesG rs).find? (fun x => !decide (x ∈ reach rs (startG rs))) with
    | some x => .exc (unrE x)
    | none => match (namesG rs).find? (fun x => decide (99 < ((getA (least rs) x).getD []).length)) with
      | some _ => .exc (bigE "words")
      | none => .ok (gFs rs)
theorem mem_names {rs : List Rl} {x : Str} : x ∈ namesG rs ↔ x ∈ wordsR rs ∧ nmB x = true := by
  unfold namesG
  rw [DS.mem_sortU, List.mem_filter]
structure Gok (rs : List Rl) : Prop where
  ne : rs ≠ []
  ok : ∀ r ∈ rs, OkR r
  ru : ∀ r ∈ rs, isRule r = true
  r12 : rs.length ≤ 12
  n6 : (namesG rs).length ≤ 6
  s6 : (signsG rs).length ≤ 6
theorem Gok.len {rs : List Rl} (g : Gok rs) : ∀ r ∈ rs, r.2.length ≤ 4 := fun r hr => by
  have := g.ru r hr
  unfold isRule at this
  simp at this
  exact this.1.2
theorem Gok.nm {rs : List Rl} (g : Gok rs) : ∀ r ∈ rs, nmB r.1 = true := fun r hr => by
  have := g.ru r hr
  unfold isRule at this
  simp only [Bool.and_eq_true] at this
  exact this.1.1
theorem Gok.sy {rs : List Rl} (g : Gok rs) : ∀ r ∈ rs, ∀ x ∈ r.2, symB x := fun r hr x hx => by
  have := g.ru r hr
  unfold isRule at this
  simp only [Bool.and_eq_true, List.all_eq_true] at this
  have := this.2 x hx
  simp only [Bool.or_eq_true] at this
  exact this.elim .inr .inl
theorem Gok.ruok {rs : List Rl} (g : Gok rs) : ∀ r ∈ rs, RuOk 4 r := fun r hr => ⟨(g.ok r hr).nm, (g.ok r hr).sy, g.len r hr⟩
theorem Gok.lhs {rs : List Rl} (g : Gok rs) : ∀ r ∈ rs, r.1 ∈ namesG rs := fun r hr => mem_names.mpr ⟨List.mem_append_left _ (List.mem_map.mpr ⟨r, hr, rfl⟩), g.nm r hr⟩
theorem Gok.rhs {rs : List Rl} (g : Gok rs) : ∀ r ∈ rs, ∀ x ∈ r.2, sgB x = false → x ∈ namesG rs := fun r hr x hx hs =>
  mem_names.mpr ⟨List.mem_append_right _ (allR_in r hr x hx), (g.sy r hr x hx).elim (fun z => by rw [z] at hs; cases hs) id⟩
theorem Gok.gd {rs : List Rl} (g : Gok rs) : Gd rs 4 6 := ⟨g.ruok, by decide, ⟨namesG rs, g.lhs, g.n6⟩, by decide, by have := g.r12; omega⟩
theorem Gok.allR {rs : List Rl} (g : Gok rs) : (LW.allR rs).length ≤ 48 := by
  have h := g.len
  have hr := g.r12
  have key : ∀ l : List Rl, (∀ r ∈ l, r.2.length ≤ 4) → (LW.allR l).length ≤ 4 * l.length := by
    intro l
    induction l with
    | nil => intro _; simp
    | cons r l ih =>
      intro h
      have h1 := h r List.mem_cons_self
      have h2 := ih fun q hq => h q (.tail _ hq)
      show ((r :: l).flatMap (·.2)).length ≤ _
      rw [List.flatMap_cons, List.length_append, List.length_cons]
      have h2 : (l.flatMap (·.2)).length ≤ 4 * l.length := h2
      omega
  have := key rs h
  omega
theorem Gok.wok {rs : List Rl} (g : Gok rs) : ∀ x ∈ wordsR rs, okW x := fun x hx => by
  rcases List.mem_append.mp hx with hx | hx
  · obtain ⟨r, hr, rfl⟩ := List.mem_map.mp hx; exact (g.ok r hr).nm
  · obtain ⟨r, hr, hx⟩ := List.mem_flatMap.mp hx; exact (g.ok r hr).sy x hx
theorem Gok.tr {rs : List Rl} (g : Gok rs) (h : (namesG rs).find? (fun x => (getA (least rs) x).isNone) = none) : TR rs (least rs) := by
  have all : ∀ x ∈ namesG rs, ∃ w, getA (least rs) x = some w := fun x hx => by
    have := List.find?_eq_none.mp h x hx
    cases hg : getA (least rs) x with
    | none => rw [hg] at this; exact absurd rfl this
    | some w => exact ⟨w, rfl⟩
  exact fun r hr => ⟨all _ (g.lhs r hr), fun x hx hs => all _ (g.rhs r hr x hx hs)⟩
theorem seq_exc {a b : DL.Env → Out} {env e' : DL.Env} {e : Exn} (h : a env = .exc e e') : mSeq a b env = .exc e e' := by
  unfold mSeq
  rw [h]
theorem setFld_ok {cs : List Str} {f c : Str} {m : DL.Env → Rz EV} {env : DL.Env} {a : EV} {d : D} {fs gs : List (Str × D)} (hm : m env = .ok a) (ha : a.fr = .fz d) (he : env.getD 0 .no = .own (.self c fs)) (hc : c ∈ cs ∧ fs.length < 1000) (hp : putD f d fs = gs) :
    mSetFld 0 cs f m env = .nx (env.set 0 (.own (.self c gs))) := by
  unfold mSetFld
  rw [hm]
  dsimp only
  rw [ha, he]
  dsimp only
  rw [if_pos hc, hp]
theorem gi_body {t : Bool} {rs : List Rl} (g : Gok rs) : ∃ env : DL.Env, match gRes rs with
    | .ok fs => b_Grammar_init [.own (.self "Grammar" []), .val (rsD t rs), .no, .no, .no, .no, .no, .no, .no, .no, .no, .no] = .nx env ∧ env.getD 0 .no = .own (.self "Grammar" fs)
    | .exc e => b_Grammar_init [.own (.self "Grammar" []), .val (rsD t rs), .no, .no, .no, .no, .no, .no, .no, .no, .no, .no] = .exc e env
    | .stuck => False := by
  have hR : rs.length ≤ 12 := g.r12
  have hA := g.allR
  obtain ⟨r0, rest, e0⟩ : ∃ r0 rest, rs = r0 :: rest := by
    cases h : rs with
    | nil => exact absurd h g.ne
    | cons a b => exact ⟨a, b, rfl⟩
  have hW : (wordsR rs).length < 4000 := by unfold wordsR; rw [List.length_append, List.length_map]; omega
  have gin : ("Grammar" : Str) ∈ [("Grammar" : Str)] := List.mem_singleton.mpr rfl
  have h3 : (3 : Nat) ≤ sizeLine := size_big (by decide)
  unfold b_Grammar_init
  -- no rule at all
  rw [seq_ok (a := mIfS _ _ _) (e := [.own (.self "Grammar" []), .val (rsD t rs), .no, .no, .no, .no, .no, .no, .no, .no, .no, .no]) (by
    simp [g.ne])]
  -- the rules' check
  obtain ⟨v2, v3, v4, hc⟩ := gi_chk (t := t) (v0 := .own (.self "Grammar" [])) (v1 := .val (rsD t rs)) (v5 := .no) (v6 := .no) (v7 := .no) (v8 := .no) (v9 := .no) (v10 := .no) (v11 := .no) rs 0 .no .no .no g.ok
  rw [badAt_none rs 0 g.ru] at hc
  rw [seq_ok ((for_ok (ds := enumD 0 (rs.map (rI t))) (by simp [mEnum])).trans hc)]
  -- self.rules
  rw [seq_ok (setFld_ok (c := "Grammar") (fs := []) (gs := [("rules", .tup (rs.map rD))]) (gi_rules (by omega)) rfl rfl ⟨gin, by simp⟩ rfl)]
  -- words
  rw [List.set_cons_zero, seq_ok (setF_ok (a := .ow true (.lst (stD (wordsR rs)))) (d := .lst (stD (wordsR rs))) (gi_words (by simp) (by omega)) rfl)]
  simp only [List.set_cons_succ, List.set_cons_zero]
  -- self.names, self.signs
  rw [seq_ok (setFld_ok (c := "Grammar") (fs := [("rules", .tup (rs.map rD))]) (gs := [("rules", .tup (rs.map rD)), ("names", .tup (stD (namesG rs)))]) (gi_sort (k := nmB) hW (fun x hx => by unfold t1_Grammar_init; simp [ap_name (g.wok x hx)]) (fun x hx => by unfold e4_Grammar_init; simp)) rfl rfl ⟨gin, by simp⟩ (by simp [putD, ke_rules_names, ke_rules_signs, ke_rules_start, ke_rules_least, ke_rules_firsts, ke_names_rules, ke_names_signs, ke_names_start, ke_names_least, ke_names_firsts, ke_signs_rules, ke_signs_names, ke_signs_start, ke_signs_least, ke_signs_firsts, ke_start_rules, ke_start_names, ke_start_signs, ke_start_least, ke_start_firsts, ke_least_rules, ke_least_names, ke_least_signs, ke_least_start, ke_least_firsts, ke_firsts_rules, ke_firsts_names, ke_firsts_signs, ke_firsts_start, ke_firsts_least]; rfl))]
  rw [List.set_cons_zero]
  rw [seq_ok (setFld_ok (c := "Grammar") (fs := [("rules", .tup (rs.map rD)), ("names", .tup (stD (namesG rs)))]) (gs := [("rules", .tup (rs.map rD)), ("names", .tup (stD (namesG rs))), ("signs", .tup (stD (signsG rs)))]) (gi_sort (k := sgB) hW (fun x hx => by unfold t2_Grammar_init; simp [ap_sign (g.wok x hx)]) (fun x hx => by unfold e5_Grammar_init; simp)) rfl rfl ⟨gin, by simp⟩ (by simp [putD, ke_rules_names, ke_rules_signs, ke_rules_start, ke_rules_least, ke_rules_firsts, ke_names_rules, ke_names_signs, ke_names_start, ke_names_least, ke_names_firsts, ke_signs_rules, ke_signs_names, ke_signs_start, ke_signs_least, ke_signs_firsts, ke_start_rules, ke_start_names, ke_start_signs, ke_start_least, ke_start_firsts, ke_least_rules, ke_least_names, ke_least_signs, ke_least_start, ke_least_firsts, ke_firsts_rules, ke_firsts_names, ke_firsts_signs, ke_firsts_start, ke_firsts_least]; rfl))]
  rw [List.set_cons_zero]
  -- self.start
  have hst : (m2 (m2 (mFld ["Grammar"] "rules" (mV 0)) (mC (.int 0)) opIx) (mC (.int 0)) opIx) [.own (.self "Grammar" [("rules", .tup (rs.map rD)), ("names", .tup (stD (namesG rs))), ("signs", .tup (stD (signsG rs)))]), .val (rsD t rs), v2, v3, v4, .val (.lst (stD (wordsR rs))), .no, .no, .no, .no, .no, .no] = .ok (.fz (.str (startG rs))) := by
    have h0 : atI (rs.map rD) 0 = some (rD r0) := atI_nat (j := 0) (by rw [e0]; rfl)
    have h1 : ixD (.fz (rD r0)) (.fz (.int 0)) = some (.str r0.1) := rfl
    have h2 : startG rs = r0.1 := by rw [e0]; rfl
    simp [fldD, h0, h1, h2]
  rw [seq_ok (setFld_ok (c := "Grammar") (gs := [("rules", .tup (rs.map rD)), ("names", .tup (stD (namesG rs))), ("signs", .tup (stD (signsG rs))), ("start", .str (startG rs))]) hst rfl rfl ⟨gin, by simp⟩ (by simp [putD, ke_rules_names, ke_rules_signs, ke_rules_start, ke_rules_least, ke_rules_firsts, ke_names_rules, ke_names_signs, ke_names_start, ke_names_least, ke_names_firsts, ke_signs_rules, ke_signs_names, ke_signs_start, ke_signs_least, ke_signs_firsts, ke_start_rules, ke_start_names, ke_start_signs, ke_start_least, ke_start_firsts, ke_least_rules, ke_least_names, ke_least_signs, ke_least_start, ke_least_firsts, ke_firsts_rules, ke_firsts_names, ke_firsts_signs, ke_firsts_start, ke_firsts_least]))]
  rw [List.set_cons_zero]
  -- the bounds
  have hn6 := g.n6
  have hs6 := g.s6
  rw [seq_ok (setF_ok (a := .ow true (.lst [.int rs.length, .int (namesG rs).length, .int (signsG rs).length])) (d := .lst [.int rs.length, .int (namesG rs).length, .int (signsG rs).length]) (by simp [fldD, List.lookup_cons, kb_rules_names, kb_rules_signs, kb_rules_start, kb_rules_least, kb_rules_firsts, kb_names_rules, kb_names_signs, kb_names_start, kb_names_least, kb_names_firsts, kb_signs_rules, kb_signs_names, kb_signs_start, kb_signs_least, kb_signs_firsts, kb_start_rules, kb_start_names, kb_start_signs, kb_start_least, kb_start_firsts, kb_least_rules, kb_least_names, kb_least_signs, kb_least_start, kb_least_firsts, kb_firsts_rules, kb_firsts_names, kb_firsts_signs, kb_firsts_start, kb_firsts_least, allFz, h3]) rfl)]
  simp only [List.set_cons_succ, List.set_cons_zero]
  rw [seq_ok (setF_ok (a := .ow true (.lst [.int 12, .int 6, .int 6])) (d := .lst [.int 12, .int 6, .int 6]) (by simp [allFz, h3]) rfl)]
  simp only [List.set_cons_succ, List.set_cons_zero]
  generalize hf4 : ([("rules", .tup (rs.map rD)), ("names", .tup (stD (namesG rs))), ("signs", .tup (stD (signsG rs))), ("start", .str (startG rs))] : List (Str × D)) = f4
  have hbound : ∃ v8 v9, mFor (mEnum (mCons (mLst (mCons (mC (.str "rules")) (mCons (mC (.str "names")) (mCons (mC (.str "signs")) mNil)))) mNil)) (pTup (pCons (pName 8) (pCons (pName 9) pNil)) 2) l2_Grammar_init
      [.own (.self "Grammar" f4), .val (rsD t rs), v2, v3, v4, .val (.lst (stD (wordsR rs))), .val (.lst [.int rs.length, .int (namesG rs).length, .int (signsG rs).length]), .val (.lst [.int 12, .int 6, .int 6]), .no, .no, .no, .no] = .nx [.own (.self "Grammar" f4), .val (rsD t rs), v2, v3, v4, .val (.lst (stD (wordsR rs))), .val (.lst [.int rs.length, .int (namesG rs).length, .int (signsG rs).length]), .val (.lst [.int 12, .int 6, .int 6]), v8, v9, .no, .no] := by
    have k0 : ∀ a b c : D, atI [a, b, c] 0 = some a := fun a b c => atI_nat (j := 0) rfl
    have k1 : ∀ a b c : D, atI [a, b, c] 1 = some b := fun a b c => atI_nat (j := 1) rfl
    have k2 : ∀ a b c : D, atI [a, b, c] 2 = some c := fun a b c => atI_nat (j := 2) rfl
    have q0 : ¬ (12 : Int) < (rs.length : Int) := by omega
    have q1 : ¬ (6 : Int) < ((namesG rs).length : Int) := by omega
    have q2 : ¬ (6 : Int) < ((signsG rs).length : Int) := by omega
    refine ⟨.val (.int 2), .val (.str "signs"), (for_ok (ds := [.tup [.int 0, .str "rules"], .tup [.int 1, .str "names"], .tup [.int 2, .str "signs"]]) (by simp [mEnum, allFz, h3, enumD])).trans ?_⟩
    simp [forF, pT2, l2_Grammar_init, k0, k1, k2, q0, q1, q2]
  obtain ⟨v8, v9, hbound⟩ := hbound
  rw [seq_ok hbound]
  -- self.least
  have hr4 : f4.lookup ("rules" : Str) = some (.tup (rs.map rD)) := by rw [← hf4]; simp
  have hls := ev_least g.gd
  rw [seq_ok (setFld_ok (c := "Grammar") (a := .fz (.dct false true (kvsD tW (least rs)))) (d := .dct false true (kvsD tW (least rs))) (fs := f4) (gs := [("rules", .tup (rs.map rD)), ("names", .tup (stD (namesG rs))), ("signs", .tup (stD (signsG rs))), ("start", .str (startG rs)), ("least", .dct false true (kvsD tW (least rs)))]) (by
    simp [fldD, hr4, appF_fz (F := F_least_words) (evs := [.fz (.tup (rs.map rD))]) hls rfl]) rfl rfl ⟨gin, by rw [← hf4]; simp⟩ (by rw [← hf4]; simp [putD, ke_rules_names, ke_rules_signs, ke_rules_start, ke_rules_least, ke_rules_firsts, ke_names_rules, ke_names_signs, ke_names_start, ke_names_least, ke_names_firsts, ke_signs_rules, ke_signs_names, ke_signs_start, ke_signs_least, ke_signs_firsts, ke_start_rules, ke_start_names, ke_start_signs, ke_start_least, ke_start_firsts, ke_least_rules, ke_least_names, ke_least_signs, ke_least_start, ke_least_firsts, ke_firsts_rules, ke_firsts_names, ke_firsts_signs, ke_firsts_start, ke_firsts_least]))]
  rw [List.set_cons_zero]
  generalize hf5 : ([("rules", .tup (rs.map rD)), ("names", .tup (stD (namesG rs))), ("signs", .tup (stD (signsG rs))), ("start", .str (startG rs)), ("least", .dct false true (kvsD tW (least rs)))] : List (Str × D)) = f5
  have hn5 : f5.lookup ("names" : Str) = some (.tup (stD (namesG rs))) := by rw [← hf5]; simp [List.lookup_cons, kb_rules_names, kb_rules_signs, kb_rules_start, kb_rules_least, kb_rules_firsts, kb_names_rules, kb_names_signs, kb_names_start, kb_names_least, kb_names_firsts, kb_signs_rules, kb_signs_names, kb_signs_start, kb_signs_least, kb_signs_firsts, kb_start_rules, kb_start_names, kb_start_signs, kb_start_least, kb_start_firsts, kb_least_rules, kb_least_names, kb_least_signs, kb_least_start, kb_least_firsts, kb_firsts_rules, kb_firsts_names, kb_firsts_signs, kb_firsts_start, kb_firsts_least]
  have hr5 : f5.lookup ("rules" : Str) = some (.tup (rs.map rD)) := by rw [← hf5]; simp
  have hs5 : f5.lookup ("start" : Str) = some (.str (startG rs)) := by rw [← hf5]; simp [List.lookup_cons, kb_rules_names, kb_rules_signs, kb_rules_start, kb_rules_least, kb_rules_firsts, kb_names_rules, kb_names_signs, kb_names_start, kb_names_least, kb_names_firsts, kb_signs_rules, kb_signs_names, kb_signs_start, kb_signs_least, kb_signs_firsts, kb_start_rules, kb_start_names, kb_start_signs, kb_start_least, kb_start_firsts, kb_least_rules, kb_least_names, kb_least_signs, kb_least_start, kb_least_firsts, kb_firsts_rules, kb_firsts_names, kb_firsts_signs, kb_firsts_start, kb_firsts_least]
  have hl5 : f5.lookup ("least" : Str) = some (.dct false true (kvsD tW (least rs))) := by rw [← hf5]; simp [List.lookup_cons, kb_rules_names, kb_rules_signs, kb_rules_start, kb_rules_least, kb_rules_firsts, kb_names_rules, kb_names_signs, kb_names_start, kb_names_least, kb_names_firsts, kb_signs_rules, kb_signs_names, kb_signs_start, kb_signs_least, kb_signs_firsts, kb_start_rules, kb_start_names, kb_start_signs, kb_start_least, kb_start_firsts, kb_least_rules, kb_least_names, kb_least_signs, kb_least_start, kb_least_firsts, kb_firsts_rules, kb_firsts_names, kb_firsts_signs, kb_firsts_start, kb_firsts_least]
  have hni : ∀ x : Str, opNi (.fz (.str x)) (.fz (.dct false true (kvsD tW (least rs)))) = .ok (.fz (.bl (!(getA (least rs) x).isSome))) := fun x => ni_kvs tW (least rs) x (t := true) rfl
  -- Barren
  obtain ⟨v3a, hbar⟩ := gi_raise (body := l3_Grammar_init) (bad := fun x => (getA (least rs) x).isNone) (E := barE) (v0 := .own (.self "Grammar" f5)) (v1 := .val (rsD t rs)) (v2 := v2) (v4 := v4) (v5 := .val (.lst (stD (wordsR rs)))) (v6 := .val (.lst [.int rs.length, .int (namesG rs).length, .int (signsG rs).length])) (v7 := .val (.lst [.int 12, .int 6, .int 6])) (v8 := v8) (v9 := v9) (v10 := .no) (v11 := .no) (namesG rs) v3 (fun x _ => by
    unfold l3_Grammar_init
    cases hg : getA (least rs) x <;> simp [fldD, hl5, hni, hg, mRaise, allFz])
  have hit5 : ∀ (a b c d e f g h i j k : SL), mItems (mFld ["Grammar"] "names" (mV 0)) [.own (.self "Grammar" f5), a, b, c, d, e, f, g, h, i, j, k] = .ok (stD (namesG rs)) := fun a b c d e f g h i j k => by simp [fldD, hn5]
  have hbar' := (for_ok (b := l3_Grammar_init) (p := pName 3) (hit5 (.val (rsD t rs)) v2 v3 v4 (.val (.lst (stD (wordsR rs)))) (.val (.lst [.int rs.length, .int (namesG rs).length, .int (signsG rs).length])) (.val (.lst [.int 12, .int 6, .int 6])) v8 v9 .no .no)).trans hbar
  unfold gRes
  cases hb : (namesG rs).find? (fun x => (getA (least rs) x).isNone) with
  | some x =>
    rw [hb] at hbar'
    dsimp only at hbar' ⊢
    exact ⟨_, seq_exc hbar'⟩
  | none =>
    rw [hb] at hbar'
    dsimp only at hbar' ⊢
    rw [seq_ok hbar']
    -- reached
    have hreach := ev_reached (b := 4) g.ruok (s := startG rs) (by unfold allS; rw [List.length_cons]; have : (rs.flatMap (·.2)).length ≤ 48 := hA; omega)
    rw [seq_ok (setF_ok (a := .ow true (.lst (stD (reach rs (startG rs))))) (d := .lst (stD (reach rs (startG rs)))) (by
      simp [fldD, hr5, hs5, appF_ow2 hreach]) rfl)]
    simp only [List.set_cons_succ, List.set_cons_zero]
    have hnr : ∀ x : Str, opNi (.fz (.str x)) (.fz (.lst (stD (reach rs (startG rs))))) = .ok (.fz (.bl (!decide (x ∈ reach rs (startG rs))))) := fun x => ni_strsL x _
    obtain ⟨v3b, hunr⟩ := gi_raise (body := l4_Grammar_init) (bad := fun x => !decide (x ∈ reach rs (startG rs))) (E := unrE) (v0 := .own (.self "Grammar" f5)) (v1 := .val (rsD t rs)) (v2 := v2) (v4 := v4) (v5 := .val (.lst (stD (wordsR rs)))) (v6 := .val (.lst [.int rs.length, .int (namesG rs).length, .int (signsG rs).length])) (v7 := .val (.lst [.int 12, .int 6, .int 6])) (v8 := v8) (v9 := v9) (v10 := .val (.lst (stD (reach rs (startG rs))))) (v11 := .no) (namesG rs) v3a (fun x _ => by
      unfold l4_Grammar_init
      by_cases hm : x ∈ reach rs (startG rs) <;> simp [hnr, hm, mRaise, allFz])
    have hunr' := (for_ok (b := l4_Grammar_init) (p := pName 3) (hit5 (.val (rsD t rs)) v2 v3a v4 (.val (.lst (stD (wordsR rs)))) (.val (.lst [.int rs.length, .int (namesG rs).length, .int (signsG rs).length])) (.val (.lst [.int 12, .int 6, .int 6])) v8 v9 (.val (.lst (stD (reach rs (startG rs))))) .no)).trans hunr
    cases hu : (namesG rs).find? (fun x => !decide (x ∈ reach rs (startG rs))) with
    | some x =>
      rw [hu] at hunr'
      dsimp only at hunr' ⊢
      exact ⟨_, seq_exc hunr'⟩
    | none =>
      rw [hu] at hunr'
      dsimp only at hunr' ⊢
      rw [seq_ok hunr']
      -- words
      have told : ∀ x ∈ namesG rs, ∃ w, getA (least rs) x = some w := fun x hx => by
        have := List.find?_eq_none.mp hb x hx
        cases hg : getA (least rs) x with
        | none => rw [hg] at this; exact absurd rfl this
        | some w => exact ⟨w, rfl⟩
      obtain ⟨v3c, hbig⟩ := gi_raise (body := l5_Grammar_init) (bad := fun x => decide (99 < ((getA (least rs) x).getD []).length)) (E := fun _ => bigE "words") (v0 := .own (.self "Grammar" f5)) (v1 := .val (rsD t rs)) (v2 := v2) (v4 := v4) (v5 := .val (.lst (stD (wordsR rs)))) (v6 := .val (.lst [.int rs.length, .int (namesG rs).length, .int (signsG rs).length])) (v7 := .val (.lst [.int 12, .int 6, .int 6])) (v8 := v8) (v9 := v9) (v10 := .val (.lst (stD (reach rs (startG rs))))) (v11 := .no) (namesG rs) v3b (fun x hx => by
        obtain ⟨w, hw⟩ := told x hx
        have hix := ix_kvs tW (least rs) x (b := .fz (.dct false true (kvsD tW (least rs)))) (t := true) rfl hw
        have hgl2 : lenD (tW w) = some (.int w.length) := by unfold tW; simp
        unfold l5_Grammar_init
        by_cases hm : 99 < w.length
        · have hm' : (99 : Int) < (w.length : Int) := by omega
          simp [fldD, hl5, hix, hw, hgl2, hm, hm', mRaise, allFz]
        · have hm' : ¬ (99 : Int) < (w.length : Int) := by omega
          simp [fldD, hl5, hix, hw, hgl2, hm, hm'])
      have hbig' := (for_ok (b := l5_Grammar_init) (p := pName 3) (hit5 (.val (rsD t rs)) v2 v3b v4 (.val (.lst (stD (wordsR rs)))) (.val (.lst [.int rs.length, .int (namesG rs).length, .int (signsG rs).length])) (.val (.lst [.int 12, .int 6, .int 6])) v8 v9 (.val (.lst (stD (reach rs (startG rs))))) .no)).trans hbig
      cases hg : (namesG rs).find? (fun x => decide (99 < ((getA (least rs) x).getD []).length)) with
      | some x =>
        rw [hg] at hbig'
        dsimp only at hbig' ⊢
        exact ⟨_, seq_exc hbig'⟩
      | none =>
        rw [hg] at hbig'
        dsimp only at hbig' ⊢
        rw [seq_ok hbig']
        have hst5 := St.iter g.gd rs.length
        have hfirst := ev_first_signs (b := 4) g.ruok (ls := least rs) hst5.len.nd (g.tr hb) (by have := hst5.size g.gd; have h2 := hst5.len.card (NL := namesG rs) g.lhs; have h3 := g.n6; show (iterF rs rs.length).length < _; omega) (by omega) (by omega)
        refine ⟨_, setFld_ok (c := "Grammar") (a := .fz (.dct false true (kvsD lW (firsts rs (least rs))))) (d := .dct false true (kvsD lW (firsts rs (least rs)))) (fs := f5) (gs := gFs rs) (by
          simp [fldD, hr5, hl5, appF_fz (F := F_first_signs) (evs := [.fz (.tup (rs.map rD)), .fz (.dct false true (kvsD tW (least rs)))]) hfirst rfl]) rfl rfl ⟨gin, by rw [← hf5]; simp⟩ (by rw [← hf5]; simp [putD, ke_rules_names, ke_rules_signs, ke_rules_start, ke_rules_least, ke_rules_firsts, ke_names_rules, ke_names_signs, ke_names_start, ke_names_least, ke_names_firsts, ke_signs_rules, ke_signs_names, ke_signs_start, ke_signs_least, ke_signs_firsts, ke_start_rules, ke_start_names, ke_start_signs, ke_start_least, ke_start_firsts, ke_least_rules, ke_least_names, ke_least_signs, ke_least_start, ke_least_firsts, ke_firsts_rules, ke_firsts_names, ke_firsts_signs, ke_firsts_start, ke_firsts_least]), rfl⟩
theorem ev_ginit {t : Bool} {rs : List Rl} (g : Gok rs) : I_Grammar_init [rsD t rs] = gRes rs := by
  obtain ⟨env, h⟩ := gi_body (t := t) g
  unfold I_Grammar_init DL.runI
  show (match b_Grammar_init [.own (.self "Grammar" []), .val (rsD t rs), .no, .no, .no, .no, .no, .no, .no, .no, .no, .no] with
    | .nx env => (match env.getD 0 .no with
      | .own (.self c' fs) => if c' = "Grammar" then Rz.ok fs else .stuck
      | _ => .stuck)
    | .exc e _ => .exc e
    | _ => .stuck) = _
  cases hg : gRes rs with
  | stuck => rw [hg] at h; exact h.elim
  | exc e => rw [hg] at h; rw [h]
  | ok fs =>
    rw [hg] at h
    rw [h.1]
    dsimp only
    rw [h.2]
    simp
end LW
namespace LW
open PySem L2 DL
open TL (tl len_tl tl_append split_join join_eq)
theorem mem_join (y : Str) : ∀ (parts : List Str) (c : Nat), c ∈ tl (Str.join y parts) → c ∈ tl y ∨ ∃ p ∈ parts, c ∈ tl p
  | [], c, h => by
    have h : c ∈ ([] : List Nat) := h
    cases h
  | [p], c, h => .inr ⟨p, List.mem_cons_self, h⟩
  | p :: q :: r, c, h => by
    have h : c ∈ tl (p ++ y ++ Str.join y (q :: r)) := h
    rw [tl_append, tl_append] at h
    rcases List.mem_append.mp h with h | h
    · rcases List.mem_append.mp h with h | h
      · exact .inr ⟨p, List.mem_cons_self, h⟩
      · exact .inl h
    · rcases mem_join y (q :: r) c h with h | ⟨z, hz, h⟩
      · exact .inl h
      · exact .inr ⟨z, .tail _ hz, h⟩
theorem len_join (y : Str) : ∀ parts : List Str, (tl (Str.join y parts)).length ≤ (parts.map (·.length)).sum + parts.length * y.length
  | [] => Nat.zero_le _
  | [p] => by
    show (tl p).length ≤ _
    rw [← len_tl]; simp
  | p :: q :: r => by
    have ih := len_join y (q :: r)
    show (tl (p ++ y ++ Str.join y (q :: r))).length ≤ _
    rw [tl_append, tl_append, List.length_append, List.length_append, ← len_tl, ← len_tl, List.map_cons, List.sum_cons, List.length_cons (a := p), Nat.succ_mul]
    omega
def alnum (x : Str) : Prop := (tl x).length ≤ 6 ∧ ∀ c ∈ tl x, c ∈ cLow ++ cUpp ++ cDig
theorem isW_alnum {x : Str} (h : isW (tl x) = true) : alnum x := by
  unfold isW at h
  simp only [Bool.and_eq_true, decide_eq_true_eq, List.all_eq_true] at h
  exact ⟨h.1.2, h.2⟩
theorem sym_alnum {x : Str} (h : symB x) : alnum x := by
  have key : ∀ f : List Nat, isX f (tl x) = true → alnum x := fun f h => by
    unfold isX at h
    simp only [Bool.and_eq_true] at h
    exact isW_alnum h.1
  exact h.elim (key _) (key _)
theorem alnum_ne {x : Str} (h : alnum x) : 32 ∉ tl x ∧ 10 ∉ tl x := by
  have h1 : (32 : Nat) ∉ cLow ++ cUpp ++ cDig := by decide
  have h2 : (10 : Nat) ∉ cLow ++ cUpp ++ cDig := by decide
  exact ⟨fun z => h1 (h.2 _ z), fun z => h2 (h.2 _ z)⟩
def lineR (r : Rl) : Str := Txt.join " " (r.1 :: "->" :: r.2)
def textR (rs : List Rl) : Str := Txt.join "\n" (rs.map lineR)
theorem tl_arrow : tl "->" = [45, 62] := by decide +kernel
theorem tl_sp : tl " " = [32] := by decide +kernel
theorem tl_nl : tl "\n" = [10] := by decide +kernel
theorem len_arrow : ("->" : Str).length = 2 := by rw [len_tl, tl_arrow]; rfl
theorem len_sp : (" " : Str).length = 1 := by rw [len_tl, tl_sp]; rfl
theorem len_nl : ("\n" : Str).length = 1 := by rw [len_tl, tl_nl]; rfl
structure Rok (r : Rl) : Prop where
  ru : isRule r = true
  ok : OkR r
theorem Rok.al {r : Rl} (h : Rok r) : alnum r.1 ∧ ∀ x ∈ r.2, alnum x := by
  have := h.ru
  unfold isRule at this
  simp only [Bool.and_eq_true, List.all_eq_true, Bool.or_eq_true] at this
  exact ⟨sym_alnum (.inr this.1.1), fun x hx => sym_alnum ((this.2 x hx).elim .inr .inl)⟩
theorem Rok.len {r : Rl} (h : Rok r) : r.2.length ≤ 4 := by
  have := h.ru
  unfold isRule at this
  simp at this
  exact this.1.2
theorem sum_le {l : List Nat} {b : Nat} (h : ∀ x ∈ l, x ≤ b) : l.sum ≤ l.length * b := by
  induction l with
  | nil => simp
  | cons x l ih =>
    rw [List.sum_cons, List.length_cons, Nat.succ_mul]
    have h1 := h x List.mem_cons_self
    have h2 := ih fun y hy => h y (.tail _ hy)
    omega
theorem line_split {r : Rl} (h : Rok r) : Txt.split (lineR r) " " = r.1 :: "->" :: r.2 := by
  refine split_join tl_sp (by decide +kernel) (by simp) fun p hp => ?_
  rcases List.mem_cons.mp hp with rfl | hp
  · exact (alnum_ne h.al.1).1
  · rcases List.mem_cons.mp hp with rfl | hp
    · rw [tl_arrow]; decide
    · exact (alnum_ne (h.al.2 p hp)).1
theorem wsum {r : Rl} (h : Rok r) : ((r.1 :: "->" :: r.2).map (·.length)).sum ≤ 36 := by
  have h1 := h.len
  have := sum_le (l := (r.1 :: "->" :: r.2).map (·.length)) (b := 6) (fun x hx => by
    obtain ⟨p, hp, rfl⟩ := List.mem_map.mp hx
    show p.length ≤ 6
    rcases List.mem_cons.mp hp with rfl | hp
    · rw [len_tl]; exact h.al.1.1
    · rcases List.mem_cons.mp hp with rfl | hp
      · rw [len_arrow]; omega
      · rw [len_tl]; exact (h.al.2 p hp).1)
  rw [List.length_map, List.length_cons, List.length_cons] at this
  omega
theorem line_len {r : Rl} (h : Rok r) : (lineR r).length ≤ 42 := by
  have h1 := h.len
  have h2 := wsum h
  have h3 := len_join " " (r.1 :: "->" :: r.2)
  rw [len_sp, List.length_cons, List.length_cons] at h3
  rw [len_tl]
  unfold lineR
  rw [join_eq]
  omega
theorem text_split {rs : List Rl} (hne : rs ≠ []) (h : ∀ r ∈ rs, Rok r) : Txt.split (textR rs) "\n" = rs.map lineR := by
  refine split_join tl_nl (by decide +kernel) (by simpa using hne) fun p hp => ?_
  obtain ⟨r, hr, rfl⟩ := List.mem_map.mp hp
  intro hc
  unfold lineR at hc
  rw [join_eq] at hc
  rcases mem_join " " _ _ hc with hc | ⟨q, hq, hc⟩
  · rw [tl_sp] at hc; revert hc; decide
  · rcases List.mem_cons.mp hq with rfl | hq
    · exact (alnum_ne (h r hr).al.1).2 hc
    · rcases List.mem_cons.mp hq with rfl | hq
      · rw [tl_arrow] at hc; revert hc; decide
      · exact (alnum_ne ((h r hr).al.2 q hq)).2 hc
theorem text_len {rs : List Rl} (hl : rs.length ≤ 1000) (h : ∀ r ∈ rs, Rok r) : (textR rs).length ≤ 43000 := by
  have h3 := len_join "\n" (rs.map lineR)
  rw [len_nl, List.length_map] at h3
  have := sum_le (l := (rs.map lineR).map (·.length)) (b := 42) (fun x hx => by
    obtain ⟨p, hp, rfl⟩ := List.mem_map.mp hx
    obtain ⟨r, hr, rfl⟩ := List.mem_map.mp hp
    exact line_len (h r hr))
  rw [List.length_map, List.length_map] at this
  rw [len_tl]
  unfold textR
  rw [join_eq]
  omega
theorem cut_drop (ds : List D) (n : Nat) : cutD ds (some (n : Int)) none = ds.drop n := by
  have h0 : ¬ ((n : Int) < 0) := by omega
  unfold cutD HT.sIx
  simp [h0]
  by_cases h : n ≤ ds.length
  · rw [Nat.min_eq_left h, List.take_of_length_le (by rw [List.length_drop]; omega)]
  · rw [Nat.min_eq_right (by omega), List.drop_of_length_le (show ds.length ≤ n by omega)]
    simp
theorem ev_parse {r : Rl} (h : Rok r) : F_parse_rule [.str (lineR r), .int 4] = .ok (.fz (rD r)) := by
  unfold F_parse_rule runB b_parse_rule
  have hz : (lineR r).length + 2 ≤ sizeLine := size_big (by have := line_len h; omega)
  have hs : gSplit (lineR r) (.fz (.str " ")) = .ok (.ow true (.lst (stD (r.1 :: "->" :: r.2)))) := by
    rw [gSplit_str, if_pos ⟨by rw [len_sp]; rfl, hz⟩, line_split h]
    rfl
  have h2 : (2 : Nat) ≤ sizeLine := size_big (by decide)
  have a0 : atI (stD (r.1 :: "->" :: r.2)) 0 = some (.str r.1) := atI_nat (j := 0) rfl
  have a1 : atI (stD (r.1 :: "->" :: r.2)) 1 = some (.str "->") := atI_nat (j := 1) rfl
  have hc : cutD (stD (r.1 :: "->" :: r.2)) (some 2) none = stD r.2 := cut_drop _ 2
  have hr := ap_is_rule (t := false) h.ok
  rw [h.ru] at hr
  have hr : appF F_is_rule [.fz (.str r.1), .fz (.lst (stD r.2)), .fz (.int 4)] = .ok (.fz (.bl true)) := hr
  have hl : ¬ ((stD (r.1 :: "->" :: r.2)).length : Int) < 2 := by simp; omega
  rw [show ([D.str (lineR r), .int 4].map SL.val ++ List.replicate (3 - [D.str (lineR r), .int 4].length) SL.no) = [.val (.str (lineR r)), .val (.int 4), .no] from rfl]
  rw [seq_ok (setF_ok (a := .ow true (.lst (stD (r.1 :: "->" :: r.2)))) (d := .lst (stD (r.1 :: "->" :: r.2))) (by simp only [mM1_e, mV_e, mC_e, List.getD_cons_zero, rdSlot_val, Rz.ok_bind, isS_str, hs]) rfl)]
  generalize stD (r.1 :: "->" :: r.2) = ds at a0 a1 hc hl
  simp [a0, a1, hc, hr, hl, gSl, seqD, allFz, h2, rD]
theorem strs_ok (xs : List Str) : strsD (stD xs) = some xs := strsD_map xs
theorem ev_law_lines {rs : List Rl} (hl : rs.length ≤ 1000) (h : ∀ r ∈ rs, Rok r) : F__law_lines [.lst (rs.map rL)] = .ok (.fz (.str (textR rs))) := by
  unfold F__law_lines runB b__law_lines
  have he : ∀ r ∈ rs, e1__law_lines [.val (.lst (rs.map rL)), .val (rL r)] = .ok (.fz (.str (lineR r))) := fun r hr => by
    have a0 : ixD (.fz (rL r)) (.fz (.int 0)) = some (.str r.1) := rfl
    have a1 : ixD (.fz (rL r)) (.fz (.int 1)) = some (.lst (stD r.2)) := rfl
    have h2 : (2 : Nat) ≤ sizeLine := size_big (by decide)
    have hz : 2 + (stD r.2).length ≤ sizeLine := size_big (by rw [List.length_map]; have := (h r hr).len; omega)
    have hj : gJoin " " (.ow true (.lst ([.str r.1, .str "->"] ++ stD r.2))) = .ok (.fz (.str (lineR r))) := by
      show joinD " " (stD (r.1 :: "->" :: r.2)) = _
      unfold joinD
      rw [strs_ok]
      simp only [orStuck_some, Rz.ok_bind]
      rw [if_pos (by
        have h1 := (h r hr).len
        have h3 := wsum (h r hr)
        rw [len_sp]
        simp only [List.length_cons]
        have h3 : (List.map Str.length (r.1 :: "->" :: r.2)).sum ≤ 36 := h3
        omega)]
      rfl
    unfold e1__law_lines
    simp only [mM1_e, m2_e, mC_e, mV_e, mLst_e, mCons_e, mNil_e, List.getD_cons_succ, List.getD_cons_zero, rdSlot_val, Rz.ok_bind, isS_str, opIx_e, a0, a1, orStuck_some, EV.fr_fz, allFz_fz, allFz_nil, Option.map_some, List.length_cons, List.length_nil, h2, if_true, opAdd_of]
    rw [if_pos hz]
    simp only [Rz.ok_bind, hj]
  have hlc : mLc (mItems (mV 0)) (pName 1) mYes e1__law_lines [1] [.val (.lst (rs.map rL)), .no] = .ok (.ow true (.lst (rs.map fun r => .str (lineR r)))) :=
    mLc_all (en := rL) (by simp) (fun r hr => ⟨_, he r hr, rfl⟩) (size_big (by omega))
  have hj : gJoin "\n" (.ow true (.lst (rs.map fun r => .str (lineR r)))) = .ok (.fz (.str (textR rs))) := by
    show joinD "\n" (rs.map fun r => .str (lineR r)) = _
    rw [show (rs.map fun r => D.str (lineR r)) = stD (rs.map lineR) by unfold stD; rw [List.map_map]; rfl]
    unfold joinD
    rw [strs_ok]
    simp only [orStuck_some, Rz.ok_bind]
    rw [if_pos (by
      have := sum_le (l := (rs.map lineR).map Str.length) (b := 42) (fun x hx => by
        obtain ⟨p, hp, rfl⟩ := List.mem_map.mp hx
        obtain ⟨r, hr, rfl⟩ := List.mem_map.mp hp
        exact line_len (h r hr))
      rw [List.length_map, List.length_map] at this
      have this : (List.map (fun x => x.length) (List.map lineR rs)).sum ≤ rs.length * 42 := this
      rw [len_nl, List.length_map]
      omega)]
    rfl
  simp [hlc, hj]
theorem gr_l1 {v0 v1 v5 : SL} {acc : List D} {n : Nat} {r : Rl} (h : Rok r) (hl : acc.length < 100000) :
    l1_Grammar_read [v0, v1, .own (.lst acc), .val (.int n), .val (.str (lineR r)), v5] = .nx [v0, v1, .own (.lst (acc ++ [rD r])), .val (.int n), .val (.str (lineR r)), .val (rD r)] := by
  have hp := appF_fz (F := F_parse_rule) (evs := [.fz (.str (lineR r)), .fz (.int 4)]) (ev_parse h) rfl
  have hz : acc.length < sizeLine := Nat.lt_of_lt_of_le hl (size_big (by decide))
  have hi : DL.isNon (rD r) = false := rfl
  unfold l1_Grammar_read
  simp [hp, opIs, hi, mApp, hz]
theorem gr_for {v0 v1 : SL} : ∀ (rs : List Rl) (n : Nat) (acc : List D) (v3 v4 v5 : SL), (∀ r ∈ rs, Rok r) → acc.length + rs.length ≤ 10000 → ∃ v3' v4' v5',
    forF (pTup (pCons (pName 3) (pCons (pName 4) pNil)) 2) l1_Grammar_read (enumD n (stD (rs.map lineR))) [v0, v1, .own (.lst acc), v3, v4, v5] = .nx [v0, v1, .own (.lst (acc ++ rs.map rD)), v3', v4', v5']
  | [], n, acc, v3, v4, v5, _, _ => ⟨v3, v4, v5, by simp [enumD, forF]⟩
  | r :: rs, n, acc, v3, v4, v5, h, hl => by
    rw [List.length_cons] at hl
    have e := gr_l1 (v0 := v0) (v1 := v1) (v5 := v5) (acc := acc) (n := n) (h r List.mem_cons_self) (by omega)
    obtain ⟨a, b, c, k⟩ := gr_for (v0 := v0) (v1 := v1) rs (n + 1) (acc ++ [rD r]) (.val (.int n)) (.val (.str (lineR r))) (.val (rD r)) (fun q hq => h q (.tail _ hq)) (by rw [List.length_append]; simp; omega)
    refine ⟨a, b, c, ?_⟩
    rw [show stD ((r :: rs).map lineR) = .str (lineR r) :: stD (rs.map lineR) from rfl, enumD, forF, pT2]
    simp only [List.set_cons_succ, List.set_cons_zero, e]
    rw [k]; simp
def gMade (rs : List Rl) : Rz EV := match gRes rs with
  | .ok fs => .ok (.ow true (.ins "Grammar" fs))
  | .exc e => .exc e
  | .stuck => .stuck
theorem rI_t (rs : List Rl) : rs.map rD = rs.map (rI true) := rfl
theorem ev_read {rs : List Rl} (g : Gok rs) : F_Grammar_read [.cls "Grammar", .str (textR rs)] = gMade rs := by
  have hk : ∀ r ∈ rs, Rok r := fun r hr => ⟨g.ru r hr, g.ok r hr⟩
  have h12 := g.r12
  unfold F_Grammar_read runB b_Grammar_read
  rw [show ([D.cls "Grammar", .str (textR rs)].map SL.val ++ List.replicate (6 - [D.cls "Grammar", .str (textR rs)].length) SL.no) = [.val (.cls "Grammar"), .val (.str (textR rs)), .no, .no, .no, .no] from rfl]
  have h0 : (mSetO 2 (mLst mNil)) [.val (.cls "Grammar"), .val (.str (textR rs)), .no, .no, .no, .no] = .nx [.val (.cls "Grammar"), .val (.str (textR rs)), .own (.lst []), .no, .no, .no] := by simp
  have hz : (textR rs).length + 2 ≤ sizeLine := size_big (by have := text_len (rs := rs) (by omega) hk; omega)
  have hs : gSplit (textR rs) (.fz (.str "\n")) = .ok (.ow true (.lst (stD (rs.map lineR)))) := by
    rw [gSplit_str, if_pos ⟨by rw [len_nl]; rfl, hz⟩, text_split g.ne hk]
    rfl
  obtain ⟨v3, v4, v5, hf⟩ := gr_for (v0 := .val (.cls "Grammar")) (v1 := .val (.str (textR rs))) rs 0 [] .no .no .no hk (by simp; omega)
  have hf' := (for_ok (it := mEnum (mCons (mM1 (mV 1) (mC (.str "\n")) gSplit) mNil)) (ds := enumD 0 (stD (rs.map lineR))) (by
    simp only [mEnum, mCons_e, mNil_e, mM1_e, mV_e, mC_e, List.getD_cons_succ, List.getD_cons_zero, rdSlot_val, Rz.ok_bind, isS_str, hs, EV.fr_new, OW.d_lst])).trans hf
  rw [List.nil_append] at hf'
  rw [seq_ok h0, seq_ok hf']
  have hi := ev_ginit (t := true) g
  have ha : appI "Grammar" I_Grammar_init [.fz (.lst (rs.map rD))] = gMade rs := by
    unfold appI gMade
    rw [show [EV.fz (.lst (rs.map rD))].map EV.d = [rsD true rs] from rfl, hi]
    cases gRes rs <;> simp [allFzB]
  simp only [mFrz, List.getD_cons_succ, List.getD_cons_zero, List.set_cons_succ, List.set_cons_zero, OW.d_lst, mRet_e, mMakeL, mMake_e, mCons_e, mNil_e, mV_e, rdSlot_val, Rz.ok_bind, EV.fr_fz, List.length_cons, List.length_nil, if_true, ha]
  cases gMade rs <;> rfl
theorem ap_read {rs : List Rl} (g : Gok rs) : appF (cmD "Grammar" false F_Grammar_read) [.fz (.str (textR rs))] = gMade rs := by
  have h := ev_read g
  unfold appF
  rw [show cmD "Grammar" false F_Grammar_read ([EV.fz (.str (textR rs))].map EV.d) = F_Grammar_read [.cls "Grammar", .str (textR rs)] from rfl, h]
  unfold gMade
  cases gRes rs <;> rfl
end LW
namespace LW.K07
open PySem PySem.Spec PyProof.Rows L2 DL
def top (i : Nat) : Stmt := PySem.Challenge.pw_awaitbook_k07_names_that_are_useless.main.body.getD i (.Pass ⟨0, 0, 0, 0⟩)
abbrev clsL : List Str := ["Signs", "Grammar", "AwaitError", "LineError", "RuleError", "TooLarge", "NameFault", "Barren", "Unreached", "SymbolError"]
structure Tx (P : Program) (K : PySem.W.Frag) (mg : Str → Option Value) : Prop where
  g__law_draws : mg "_law_draws" = some (.ref (He.ga K "_law_draws"))
  g__law_name : mg "_law_name" = some (.ref (He.ga K "_law_name"))
  g__law_less : mg "_law_less" = some (.ref (He.ga K "_law_less"))
  g__law_least : mg "_law_least" = some (.ref (He.ga K "_law_least"))
  g__law_reached : mg "_law_reached" = some (.ref (He.ga K "_law_reached"))
  g__law_sorted : mg "_law_sorted" = some (.ref (He.ga K "_law_sorted"))
  g__law_cell : mg "_law_cell" = some (.ref (He.ga K "_law_cell"))
  g__law_same : mg "_law_same" = some (.ref (He.ga K "_law_same"))
  gk_RuleError : mg "RuleError" = some (.ref (He.ga K "RuleError"))
  g_order : mg "order" = some (.ref (He.ga K "order"))
  g_is_word : mg "is_word" = some (.ref (He.ga K "is_word"))
  g_is_sign : mg "is_sign" = some (.ref (He.ga K "is_sign"))
  g_least_words : mg "least_words" = some (.ref (He.ga K "least_words"))
  g_is_name : mg "is_name" = some (.ref (He.ga K "is_name"))
  g_reached_names : mg "reached_names" = some (.ref (He.ga K "reached_names"))
  gk_Signs : mg "Signs" = some (.ref (He.ga K "Signs"))
  g_leading : mg "leading" = some (.ref (He.ga K "leading"))
  g_first_signs : mg "first_signs" = some (.ref (He.ga K "first_signs"))
  gk_TooLarge : mg "TooLarge" = some (.ref (He.ga K "TooLarge"))
  gk_Barren : mg "Barren" = some (.ref (He.ga K "Barren"))
  gk_Unreached : mg "Unreached" = some (.ref (He.ga K "Unreached"))
  g_is_rule : mg "is_rule" = some (.ref (He.ga K "is_rule"))
  gk_Grammar : mg "Grammar" = some (.ref (He.ga K "Grammar"))
  k_Grammar : Cls K (He.ga K "Grammar")
  mk_Grammar : Mk K (He.ga K "Grammar") (He.ma K (He.ga K "Grammar") "__init__")
  g_parse_rule : mg "parse_rule" = some (.ref (He.ga K "parse_rule"))
  g__law_lines : mg "_law_lines" = some (.ref (He.ga K "_law_lines"))
  gk_NameFault : mg "NameFault" = some (.ref (He.ga K "NameFault"))
  gk_LineError : mg "LineError" = some (.ref (He.ga K "LineError"))
  gk_AwaitError : mg "AwaitError" = some (.ref (He.ga K "AwaitError"))
  g__law_fate : mg "_law_fate" = some (.ref (He.ga K "_law_fate"))
  n_abs : mg "abs" = none
  n_all : mg "all" = none
  n_bool : mg "bool" = none
  n_enumerate : mg "enumerate" = none
  n_int : mg "int" = none
  n_isinstance : mg "isinstance" = none
  n_len : mg "len" = none
  n_list : mg "list" = none
  n_range : mg "range" = none
  n_sorted : mg "sorted" = none
  n_str : mg "str" = none
  n_super : mg "super" = none
  n_tuple : mg "tuple" = none
  c_LOWER : ∃ t, mg "LOWER" = some (.str "abcdefghijklmnopqrstuvwxyz" t)
  c_UPPER : ∃ t, mg "UPPER" = some (.str "ABCDEFGHIJKLMNOPQRSTUVWXYZ" t)
  c_DIGITS : ∃ t, mg "DIGITS" = some (.str "0123456789" t)
  u__law_draws : ∃ fd, FunD K "_law_draws" "_law_draws" (defArgs (top 29)) (defBody (top 29)) (defScope (top 29)) [] [] (He.ga K "_law_draws") fd
  u__law_name : ∃ fd, FunD K "_law_name" "_law_name" (defArgs (top 31)) (defBody (top 31)) (defScope (top 31)) [] [] (He.ga K "_law_name") fd
  u__law_less : ∃ fd, FunD K "_law_less" "_law_less" (defArgs (top 32)) (defBody (top 32)) (defScope (top 32)) [] [] (He.ga K "_law_less") fd
  u__law_least : ∃ fd, FunD K "_law_least" "_law_least" (defArgs (top 34)) (defBody (top 34)) (defScope (top 34)) [] [] (He.ga K "_law_least") fd
  u__law_reached : ∃ fd, FunD K "_law_reached" "_law_reached" (defArgs (top 36)) (defBody (top 36)) (defScope (top 36)) [] [] (He.ga K "_law_reached") fd
  u__law_sorted : ∃ fd, FunD K "_law_sorted" "_law_sorted" (defArgs (top 33)) (defBody (top 33)) (defScope (top 33)) [] [] (He.ga K "_law_sorted") fd
  u__law_cell : ∃ fd, FunD K "_law_cell" "_law_cell" (defArgs (top 28)) (defBody (top 28)) (defScope (top 28)) [] [] (He.ga K "_law_cell") fd
  u__law_same : ∃ fd, FunD K "_law_same" "_law_same" (defArgs (top 30)) (defBody (top 30)) (defScope (top 30)) [] [] (He.ga K "_law_same") fd
  us_LineError : ∃ fd, DX.FunS P K "LineError.__init__" (defArgs (inClass (top 3) 0)) (defBody (inClass (top 3) 0)) (defScope (inClass (top 3) 0)) (He.ga K "LineError") (He.ma K (He.ga K "LineError") "__init__") fd
  tp : (P.main.scope.names.lookup ("super" : Str)).isSome = false
  sup_RuleError : supB K (He.ga K "RuleError") (He.ga K "LineError") = true
  ini_RuleError : initB K (He.ga K "RuleError") (He.ga K "LineError") = true
  u_order : ∃ fd, FunD K "order" "order" (defArgs (top 19)) (defBody (top 19)) (defScope (top 19)) [] [] (He.ga K "order") fd
  u_is_word : ∃ fd, FunD K "is_word" "is_word" (defArgs (top 14)) (defBody (top 14)) (defScope (top 14)) [] [] (He.ga K "is_word") fd
  u_is_sign : ∃ fd, FunD K "is_sign" "is_sign" (defArgs (top 15)) (defBody (top 15)) (defScope (top 15)) [] [] (He.ga K "is_sign") fd
  u_least_words : ∃ fd, FunD K "least_words" "least_words" (defArgs (top 22)) (defBody (top 22)) (defScope (top 22)) [] [] (He.ga K "least_words") fd
  u_is_name : ∃ fd, FunD K "is_name" "is_name" (defArgs (top 16)) (defBody (top 16)) (defScope (top 16)) [] [] (He.ga K "is_name") fd
  u_reached_names : ∃ fd, FunD K "reached_names" "reached_names" (defArgs (top 25)) (defBody (top 25)) (defScope (top 25)) [] [] (He.ga K "reached_names") fd
  cv_Signs_END : CCon K mg "Signs" "END" (.str "$")
  u_leading : ∃ fd, FunD K "leading" "leading" (defArgs (top 23)) (defBody (top 23)) (defScope (top 23)) [] [] (He.ga K "leading") fd
  u_first_signs : ∃ fd, FunD K "first_signs" "first_signs" (defArgs (top 24)) (defBody (top 24)) (defScope (top 24)) [] [] (He.ga K "first_signs") fd
  us_TooLarge : ∃ fd, DX.FunS P K "TooLarge.__init__" (defArgs (inClass (top 5) 0)) (defBody (inClass (top 5) 0)) (defScope (inClass (top 5) 0)) (He.ga K "TooLarge") (He.ma K (He.ga K "TooLarge") "__init__") fd
  sup_TooLarge : supB K (He.ga K "TooLarge") (He.ga K "TooLarge") = true
  ini_TooLarge : initB K (He.ga K "TooLarge") (He.ga K "TooLarge") = true
  us_NameFault : ∃ fd, DX.FunS P K "NameFault.__init__" (defArgs (inClass (top 6) 0)) (defBody (inClass (top 6) 0)) (defScope (inClass (top 6) 0)) (He.ga K "NameFault") (He.ma K (He.ga K "NameFault") "__init__") fd
  sup_Barren : supB K (He.ga K "Barren") (He.ga K "NameFault") = true
  ini_Barren : initB K (He.ga K "Barren") (He.ga K "NameFault") = true
  sup_Unreached : supB K (He.ga K "Unreached") (He.ga K "NameFault") = true
  ini_Unreached : initB K (He.ga K "Unreached") (He.ga K "NameFault") = true
  u_is_rule : ∃ fd, FunD K "is_rule" "is_rule" (defArgs (top 20)) (defBody (top 20)) (defScope (top 20)) [] [] (He.ga K "is_rule") fd
  cv_Grammar_MOST_SYMBOLS : CCon K mg "Grammar" "MOST_SYMBOLS" (.int 4)
  cv_Grammar_MOST_SIGNS : CCon K mg "Grammar" "MOST_SIGNS" (.int 6)
  cv_Grammar_MOST_NAMES : CCon K mg "Grammar" "MOST_NAMES" (.int 6)
  cv_Grammar_MOST_RULES : CCon K mg "Grammar" "MOST_RULES" (.int 12)
  cv_Grammar_MOST_WORD : CCon K mg "Grammar" "MOST_WORD" (.int 99)
  u_Grammar_init : ∃ fd, FunD K "__init__" "Grammar.__init__" (defArgs (inClass (top 26) 5)) (defBody (inClass (top 26) 5)) (defScope (inClass (top 26) 5)) [] [] (He.ma K (He.ga K "Grammar") "__init__") fd
  u_parse_rule : ∃ fd, FunD K "parse_rule" "parse_rule" (defArgs (top 21)) (defBody (top 21)) (defScope (top 21)) [] [] (He.ga K "parse_rule") fd
  cr_Grammar : crB K (He.ga K "Grammar") = true
  cm_Grammar_read : cmB K (He.ga K "Grammar") "read" = true
  u_Grammar_read : ∃ fd, FunD K "read" "Grammar.read" (defArgs (inClass (top 26) 6)) (defBody (inClass (top 26) 6)) (defScope (inClass (top 26) 6)) [] [] (cmA K (He.ga K "Grammar") "read") fd
  u__law_lines : ∃ fd, FunD K "_law_lines" "_law_lines" (defArgs (top 35)) (defBody (top 35)) (defScope (top 35)) [] [] (He.ga K "_law_lines") fd
  exm_NameFault : exmTab K (.ref (He.ga K "NameFault")) [("AwaitError", false), ("LineError", false), ("RuleError", false), ("TooLarge", false), ("NameFault", true), ("Barren", true), ("Unreached", true), ("SymbolError", false)] = true
  exc : excTab K ["AwaitError", "LineError", "RuleError", "TooLarge", "NameFault", "Barren", "Unreached", "SymbolError"] = true
  kit_Barren : kitTab K (.ref (He.ga K "Barren")) [("AwaitError", false), ("LineError", false), ("RuleError", false), ("TooLarge", false), ("NameFault", false), ("Barren", true), ("Unreached", false), ("SymbolError", false)] = true
  kit_Unreached : kitTab K (.ref (He.ga K "Unreached")) [("AwaitError", false), ("LineError", false), ("RuleError", false), ("TooLarge", false), ("NameFault", false), ("Barren", false), ("Unreached", true), ("SymbolError", false)] = true
  kit_LineError : kitTab K (.ref (He.ga K "LineError")) [("AwaitError", false), ("LineError", true), ("RuleError", true), ("TooLarge", false), ("NameFault", false), ("Barren", false), ("Unreached", false), ("SymbolError", false)] = true
  kit_TooLarge : kitTab K (.ref (He.ga K "TooLarge")) [("AwaitError", false), ("LineError", false), ("RuleError", false), ("TooLarge", true), ("NameFault", false), ("Barren", false), ("Unreached", false), ("SymbolError", false)] = true
  kit_AwaitError : kitTab K (.ref (He.ga K "AwaitError")) [("AwaitError", true), ("LineError", true), ("RuleError", true), ("TooLarge", true), ("NameFault", true), ("Barren", true), ("Unreached", true), ("SymbolError", true)] = true
  u__law_fate : ∃ fd, FunD K "_law_fate" "_law_fate" (defArgs (top 37)) (defBody (top 37)) (defScope (top 37)) [] [] (He.ga K "_law_fate") fd
  na : noatTab K [("RuleError", "line"), ("TooLarge", "what"), ("Barren", "name"), ("Unreached", "name"), ("Grammar", "rules"), ("Grammar", "names"), ("Grammar", "signs"), ("Grammar", "start"), ("Grammar", "least"), ("Grammar", "firsts"), ("NameFault", "name")] = true
section
variable {P : Program} {w : World} {K : PySem.W.Frag} {mg : Str → Option Value} {base : Heap}
theorem fo_rules (T : Tx P K mg) {C : CT} (h : C.cls = clsOf clsL K) : FldOk K C ["Grammar"] "rules" := fldOk_of h fun c hc => ⟨by
  simp only [List.mem_cons, List.not_mem_nil, or_false] at hc
  rcases hc with rfl
  exact T.k_Grammar, noatTab_ok T.na (by revert c; decide)⟩
theorem fo_names (T : Tx P K mg) {C : CT} (h : C.cls = clsOf clsL K) : FldOk K C ["Grammar"] "names" := fldOk_of h fun c hc => ⟨by
  simp only [List.mem_cons, List.not_mem_nil, or_false] at hc
  rcases hc with rfl
  exact T.k_Grammar, noatTab_ok T.na (by revert c; decide)⟩
theorem fo_signs (T : Tx P K mg) {C : CT} (h : C.cls = clsOf clsL K) : FldOk K C ["Grammar"] "signs" := fldOk_of h fun c hc => ⟨by
  simp only [List.mem_cons, List.not_mem_nil, or_false] at hc
  rcases hc with rfl
  exact T.k_Grammar, noatTab_ok T.na (by revert c; decide)⟩
theorem fo_start (T : Tx P K mg) {C : CT} (h : C.cls = clsOf clsL K) : FldOk K C ["Grammar"] "start" := fldOk_of h fun c hc => ⟨by
  simp only [List.mem_cons, List.not_mem_nil, or_false] at hc
  rcases hc with rfl
  exact T.k_Grammar, noatTab_ok T.na (by revert c; decide)⟩
theorem fo_least (T : Tx P K mg) {C : CT} (h : C.cls = clsOf clsL K) : FldOk K C ["Grammar"] "least" := fldOk_of h fun c hc => ⟨by
  simp only [List.mem_cons, List.not_mem_nil, or_false] at hc
  rcases hc with rfl
  exact T.k_Grammar, noatTab_ok T.na (by revert c; decide)⟩
theorem fo_firsts (T : Tx P K mg) {C : CT} (h : C.cls = clsOf clsL K) : FldOk K C ["Grammar"] "firsts" := fldOk_of h fun c hc => ⟨by
  simp only [List.mem_cons, List.not_mem_nil, or_false] at hc
  rcases hc with rfl
  exact T.k_Grammar, noatTab_ok T.na (by revert c; decide)⟩
abbrev s__law_draws : Stmt := top 29
abbrev N__law_draws : List Str := ["_law_cell_here", "_law_count", "_law_row", "_law_left", "_law_k", "_law_low"]
theorem sc__law_draws : FnScope N__law_draws ["_law_cell_here", "_law_count"] (defScope s__law_draws) := ⟨rfl, rfl, rfl, by decide +kernel, rfl, by decide +kernel, by decide +kernel⟩
theorem ok__law_draws (T : Tx P K mg) : FnG P w ⟨K, CC clsL K⟩ mg base 1 "_law_draws" ["_law_cell_here", "_law_count"] F__law_draws := by
  refine fn_global (N := N__law_draws) (b := b__law_draws) T.u__law_draws T.g__law_draws sc__law_draws (by decide) (fun _ _ _ _ _ _ us hl => match us, hl with | [_, _], _ => rfl) (fun cdv A outer s H E hr hp tk => ?_)
  have nd := sc__law_draws.nd
  have hu4 := hr.units
  have hu1 := room1 hr
  have hu5 := room5 hr
  exact (dss_cons (ds_setO (i := 2) (de_lst da_nil) nd)
    (dss_cons (ds_setF (i := 3) (de_var 0) nd)
    (dss_cons (ds_for hp (di_range1 T.n_range (da_cons (de_var 1) da_nil)) (dg_name nd (i := 4))
      (dss_one (ds_if (DW.dt (dw_and (dt_cmp od_ge ne_opO (de_var 0) (de_op od_pow ne_opI de_int de_int)) (dw_and1 (dt_cmp od_gt ne_opO (de_var 3) de_int))))
        (dss_cons (ds_app 2 (de_op od_mod ne_opI (de_callTy cd_int ne_g1 T.n_int (by decide +kernel) (da_cons (de_var 3) da_nil)) de_int))
        (dss_one (ds_setF (i := 3) (de_op od_div ne_opI (de_var 3) de_int) nd)))
        (dss_cons (ds_setF (i := 5) (de_op od_mod ne_opI (de_callTy cd_int ne_g1 T.n_int (by decide +kernel) (da_cons (de_op od_mul ne_opI (de_op od_mul ne_opI (de_op od_add ne_add (de_var 0) de_int) (de_op od_add ne_add (de_var 4) de_int)) de_int) da_nil)) de_int) nd)
        (dss_one (ds_app 2 (de_op od_div ne_opI (de_op od_mod ne_opI (de_callTy cd_int ne_g1 T.n_int (by decide +kernel) (da_cons (de_op od_add ne_add (de_op od_add ne_add (de_op od_mul ne_opI (de_var 5) (de_var 5)) (de_var 0)) (de_op od_mul ne_opI de_int (de_var 4))) da_nil)) de_int) de_int)))))))
    (dss_one (ds_ret (de_var 2))))))
abbrev s__law_name : Stmt := top 31
abbrev N__law_name : List Str := ["_law_symbol"]
theorem sc__law_name : FnScope N__law_name ["_law_symbol"] (defScope s__law_name) := ⟨rfl, rfl, rfl, by decide +kernel, rfl, by decide +kernel, by decide +kernel⟩
theorem ok__law_name (T : Tx P K mg) : FnG P w ⟨K, CC clsL K⟩ mg base 1 "_law_name" ["_law_symbol"] F__law_name := by
  refine fn_global (N := N__law_name) (b := b__law_name) T.u__law_name T.g__law_name sc__law_name (by decide) (fun _ _ _ _ _ _ us hl => match us, hl with | [_], _ => rfl) (fun cdv A outer s H E hr hp tk => ?_)
  have nd := sc__law_name.nd
  have hu4 := hr.units
  have hu1 := room1 hr
  have hu5 := room5 hr
  exact (dss_one (ds_ret (de_and (de_cmp od_le ne_opO de_str (de_sl (de_var 0) do_none (do_some de_int))) (de_one (de_cmp od_le ne_opO (de_sl (de_var 0) do_none (do_some de_int)) de_str)))))
abbrev s__law_less : Stmt := top 32
abbrev N__law_less : List Str := ["_law_one", "_law_other"]
theorem sc__law_less : FnScope N__law_less ["_law_one", "_law_other"] (defScope s__law_less) := ⟨rfl, rfl, rfl, by decide +kernel, rfl, by decide +kernel, by decide +kernel⟩
theorem ok__law_less (T : Tx P K mg) : FnG P w ⟨K, CC clsL K⟩ mg base 1 "_law_less" ["_law_one", "_law_other"] F__law_less := by
  refine fn_global (N := N__law_less) (b := b__law_less) T.u__law_less T.g__law_less sc__law_less (by decide) (fun _ _ _ _ _ _ us hl => match us, hl with | [_, _], _ => rfl) (fun cdv A outer s H E hr hp tk => ?_)
  have nd := sc__law_less.nd
  have hu4 := hr.units
  have hu1 := room1 hr
  have hu5 := room5 hr
  exact (dss_one (ds_ret (de_or (de_cmp (od_lt hu4) ne_opO (de_callB cd_len ne_g1 T.n_len (by decide +kernel) (da_cons (de_var 0) da_nil)) (de_callB cd_len ne_g1 T.n_len (by decide +kernel) (da_cons (de_var 1) da_nil))) (de_one (de_and (de_cmp (od_eq hu4) ne_eq (de_callB cd_len ne_g1 T.n_len (by decide +kernel) (da_cons (de_var 0) da_nil)) (de_callB cd_len ne_g1 T.n_len (by decide +kernel) (da_cons (de_var 1) da_nil))) (de_one (de_cmp (od_lt hu4) ne_opO (de_var 0) (de_var 1))))))))
abbrev s__law_least : Stmt := top 34
abbrev N__law_least : List Str := ["_law_rules", "_law_least_here", "_law_turn", "_law_rule", "_law_word", "_law_symbol"]
theorem sc__law_least : FnScope N__law_least ["_law_rules"] (defScope s__law_least) := ⟨rfl, rfl, rfl, by decide +kernel, rfl, by decide +kernel, by decide +kernel⟩
theorem ok__law_least (T : Tx P K mg) (O__law_name : FnG P w ⟨K, CC clsL K⟩ mg base 1 "_law_name" ["_law_symbol"] F__law_name) (O__law_less : FnG P w ⟨K, CC clsL K⟩ mg base 1 "_law_less" ["_law_one", "_law_other"] F__law_less) : FnG P w ⟨K, CC clsL K⟩ mg base 2 "_law_least" ["_law_rules"] F__law_least := by
  refine fn_global (N := N__law_least) (b := b__law_least) T.u__law_least T.g__law_least sc__law_least (by decide) (fun _ _ _ _ _ _ us hl => match us, hl with | [_], _ => rfl) (fun cdv A outer s H E hr hp tk => ?_)
  have nd := sc__law_least.nd
  have hu4 := hr.units
  have hu1 := room1 hr
  have hu5 := room5 hr
  exact (dss_cons (ds_setO (i := 1) de_newK nd)
    (dss_cons (ds_for hp (di_range1 T.n_range (da_cons (de_op od_add ne_add (de_callB cd_len ne_g1 T.n_len (by decide +kernel) (da_cons (de_var 0) da_nil)) de_int) da_nil)) (dg_name nd (i := 2))
      (dss_one (ds_for hp (di_seq (de_var 0)) (dg_name nd (i := 3))
        (dss_cons (ds_setF (i := 4) (de_lst da_nil) nd)
        (dss_cons (ds_for hp (di_seq (de_ix (de_var 3) de_int)) (dg_name nd (i := 5))
          (dss_one (ds_if (DW.dt (dw_and (dt_cmp od_isn ne_isn (de_var 4) de_non) (dw_and1 (dt_val (de_call O__law_name (hr.mono (by omega)) tk (da_cons (de_var 5) da_nil))))))
            (dss_one (ds_setF (i := 4) (de_if (dt_cmp (od_in hu5) ne_in (de_var 5) (de_var 1)) (de_op od_add ne_add (de_var 4) (de_ixK hu1 (de_var 1) (de_var 5))) de_non) nd))
            (dss_one (ds_if (dt_cmp od_isn ne_isn (de_var 4) de_non)
              (dss_one (ds_setF (i := 4) (de_op od_add ne_add (de_var 4) (de_lst (da_cons (de_var 5) da_nil))) nd))
              dss_nil)))))
        (dss_one (ds_if (DW.dt (dw_and (dt_cmp od_isn ne_isn (de_var 4) de_non) (dw_and1 (DW.dt (dw_or (dt_cmp (od_ni hu5) ne_ni (de_ix (de_var 3) de_int) (de_var 1)) (dw_or1 (dt_val (de_call O__law_less (hr.mono (by omega)) tk (da_cons (de_var 4) (da_cons (de_ixK hu1 (de_var 1) (de_ix (de_var 3) de_int)) da_nil))))))))))
          (dss_one (ds_put 1 hu1 (de_ix (de_var 3) de_int) (de_var 4)))
          dss_nil)))))))
    (dss_one (ds_lock 1 (ds_ret (de_var 1))))))
abbrev s__law_reached : Stmt := top 36
abbrev N__law_reached : List Str := ["_law_rules", "_law_reached_here", "_law_at", "_law_rule", "_law_symbol"]
theorem sc__law_reached : FnScope N__law_reached ["_law_rules"] (defScope s__law_reached) := ⟨rfl, rfl, rfl, by decide +kernel, rfl, by decide +kernel, by decide +kernel⟩
theorem ok__law_reached (T : Tx P K mg) (O__law_name : FnG P w ⟨K, CC clsL K⟩ mg base 1 "_law_name" ["_law_symbol"] F__law_name) : FnG P w ⟨K, CC clsL K⟩ mg base 2 "_law_reached" ["_law_rules"] F__law_reached := by
  refine fn_global (N := N__law_reached) (b := b__law_reached) T.u__law_reached T.g__law_reached sc__law_reached (by decide) (fun _ _ _ _ _ _ us hl => match us, hl with | [_], _ => rfl) (fun cdv A outer s H E hr hp tk => ?_)
  have nd := sc__law_reached.nd
  have hu4 := hr.units
  have hu1 := room1 hr
  have hu5 := room5 hr
  exact (dss_cons (ds_setO (i := 1) (de_lst (da_cons (de_ix (de_ix (de_var 0) de_int) de_int) da_nil)) nd)
    (dss_cons (ds_setF (i := 2) de_int nd)
    (dss_cons (ds_while hp (dt_cmp (od_lt hu4) ne_opO (de_var 2) (de_callB cd_len ne_g1 T.n_len (by decide +kernel) (da_cons (de_var 1) da_nil)))
      (dss_cons (ds_for hp (di_seq (de_var 0)) (dg_name nd (i := 3))
        (dss_one (ds_for hp (di_seq (de_ix (de_var 3) de_int)) (dg_name nd (i := 4))
          (dss_one (ds_if (DW.dt (dw_and (dt_cmp (od_eq hu4) ne_eq (de_ix (de_var 3) de_int) (de_ix (de_var 1) (de_var 2))) (dw_and (dt_val (de_call O__law_name (hr.mono (by omega)) tk (da_cons (de_var 4) da_nil))) (dw_and1 (dt_cmp (od_ni hu5) ne_ni (de_var 4) (de_var 1))))))
            (dss_one (ds_app 1 (de_var 4)))
            dss_nil)))))
      (dss_one (ds_setF (i := 2) (de_op od_add ne_add (de_var 2) de_int) nd))))
    (dss_one (ds_ret (de_var 1))))))
abbrev s__law_sorted : Stmt := top 33
abbrev N__law_sorted : List Str := ["_law_row", "_law_done", "_law_thing", "_law_at"]
theorem sc__law_sorted : FnScope N__law_sorted ["_law_row"] (defScope s__law_sorted) := ⟨rfl, rfl, rfl, by decide +kernel, rfl, by decide +kernel, by decide +kernel⟩
theorem ok__law_sorted (T : Tx P K mg) : FnG P w ⟨K, CC clsL K⟩ mg base 1 "_law_sorted" ["_law_row"] F__law_sorted := by
  refine fn_global (N := N__law_sorted) (b := b__law_sorted) T.u__law_sorted T.g__law_sorted sc__law_sorted (by decide) (fun _ _ _ _ _ _ us hl => match us, hl with | [_], _ => rfl) (fun cdv A outer s H E hr hp tk => ?_)
  have nd := sc__law_sorted.nd
  have hu4 := hr.units
  have hu1 := room1 hr
  have hu5 := room5 hr
  exact (dss_cons (ds_setO (i := 1) (de_lst da_nil) nd)
    (dss_cons (ds_for hp (di_seq (de_var 0)) (dg_name nd (i := 2))
      (dss_cons (ds_setF (i := 3) de_int nd)
      (dss_cons (ds_while hp (DW.dt (dw_and (dt_cmp (od_lt hu4) ne_opO (de_var 3) (de_callB cd_len ne_g1 T.n_len (by decide +kernel) (da_cons (de_var 1) da_nil))) (dw_and1 (dt_cmp (od_lt hu4) ne_opO (de_ix (de_var 1) (de_var 3)) (de_var 2)))))
        (dss_one (ds_setF (i := 3) (de_op od_add ne_add (de_var 3) de_int) nd)))
      (dss_one (ds_ins 1 (da_cons (de_var 3) (da_cons (de_var 2) da_nil)))))))
    (dss_one (ds_ret (de_var 1)))))
abbrev s__law_cell : Stmt := top 28
abbrev N__law_cell : List Str := ["_law_script", "_law_at"]
theorem sc__law_cell : FnScope N__law_cell ["_law_script", "_law_at"] (defScope s__law_cell) := ⟨rfl, rfl, rfl, by decide +kernel, rfl, by decide +kernel, by decide +kernel⟩
theorem ok__law_cell (T : Tx P K mg) : FnG P w ⟨K, CC clsL K⟩ mg base 1 "_law_cell" ["_law_script", "_law_at"] F__law_cell := by
  refine fn_global (N := N__law_cell) (b := b__law_cell) T.u__law_cell T.g__law_cell sc__law_cell (by decide) (fun _ _ _ _ _ _ us hl => match us, hl with | [_, _], _ => rfl) (fun cdv A outer s H E hr hp tk => ?_)
  have nd := sc__law_cell.nd
  have hu4 := hr.units
  have hu1 := room1 hr
  have hu5 := room5 hr
  exact (dss_cons (ds_if (dt_cmp (od_lt hu4) ne_opO (de_var 1) (de_callB cd_len ne_g1 T.n_len (by decide +kernel) (da_cons (de_var 0) da_nil)))
      (dss_one (ds_ret (de_callB cd_abs ne_g1 T.n_abs (by decide +kernel) (da_cons (de_ix (de_var 0) (de_var 1)) da_nil))))
      dss_nil)
    (dss_one (ds_ret de_int)))
abbrev s__law_same : Stmt := top 30
abbrev N__law_same : List Str := ["_law_told", "_law_due", "_law_k"]
theorem sc__law_same : FnScope N__law_same ["_law_told", "_law_due"] (defScope s__law_same) := ⟨rfl, rfl, rfl, by decide +kernel, rfl, by decide +kernel, by decide +kernel⟩
theorem okr__law_same (T : Tx P K mg) : ∀ n : Nat, FnG P w ⟨K, CC clsL K⟩ mg base (2 + n) "_law_same" ["_law_told", "_law_due"] (F__law_same n)
  | 0 => fn_global (N := N__law_same) (b := fun _ => .stuck) T.u__law_same T.g__law_same sc__law_same (by decide) (fun _ _ _ _ _ _ us hl => match us, hl with | [_, _], _ => rfl) (fun _ _ _ _ _ _ _ _ _ => dss_stuck)
  | n + 1 => by
    have O__law_same := okr__law_same T n
    refine fn_global (k := 2 + n) (N := N__law_same) (b := b__law_same (F__law_same n)) T.u__law_same T.g__law_same sc__law_same (by decide) (fun _ _ _ _ _ _ us hl => match us, hl with | [_, _], _ => rfl) (fun cdv A outer s H E hr hp tk => ?_)
    have nd := sc__law_same.nd
    have hu4 := hr.units
    have hu1 := room1 hr
    have hu5 := room5 hr
    exact (dss_cons (ds_if (dt_cmp od_is ne_is (de_var 1) de_non)
      (dss_one (ds_ret (de_cmp od_is ne_is (de_var 0) de_non)))
      dss_nil)
    (dss_cons (ds_if (dt_val (de_callB cd_isi ne_gIsi T.n_isinstance (by decide +kernel) (da_cons (de_var 1) (da_cons (de_bltn T.n_bool (by decide +kernel)) da_nil))))
      (dss_one (ds_ret (de_and (de_callB cd_isi ne_gIsi T.n_isinstance (by decide +kernel) (da_cons (de_var 0) (da_cons (de_bltn T.n_bool (by decide +kernel)) da_nil))) (de_one (de_cmp (od_eq hu4) ne_eq (de_var 0) (de_var 1))))))
      dss_nil)
    (dss_cons (ds_if (dt_val (de_callB cd_isi ne_gIsi T.n_isinstance (by decide +kernel) (da_cons (de_var 1) (da_cons (de_bltn T.n_int (by decide +kernel)) da_nil))))
      (dss_one (ds_ret (de_and (de_callB cd_isi ne_gIsi T.n_isinstance (by decide +kernel) (da_cons (de_var 0) (da_cons (de_bltn T.n_int (by decide +kernel)) da_nil))) (de_and (de_not (de_callB cd_isi ne_gIsi T.n_isinstance (by decide +kernel) (da_cons (de_var 0) (da_cons (de_bltn T.n_bool (by decide +kernel)) da_nil)))) (de_one (de_cmp (od_eq hu4) ne_eq (de_var 0) (de_var 1)))))))
      dss_nil)
    (dss_cons (ds_if (dt_val (de_callB cd_isi ne_gIsi T.n_isinstance (by decide +kernel) (da_cons (de_var 1) (da_cons (de_bltn T.n_str (by decide +kernel)) da_nil))))
      (dss_one (ds_ret (de_and (de_callB cd_isi ne_gIsi T.n_isinstance (by decide +kernel) (da_cons (de_var 0) (da_cons (de_bltn T.n_str (by decide +kernel)) da_nil))) (de_one (de_cmp (od_eq hu4) ne_eq (de_var 0) (de_var 1))))))
      dss_nil)
    (dss_cons (ds_if (DW.dt (dw_or (DW.dt (dw_and (dt_val (de_callB cd_isi ne_gIsi T.n_isinstance (by decide +kernel) (da_cons (de_var 1) (da_cons (de_bltn T.n_tuple (by decide +kernel)) da_nil)))) (dw_and1 (dt_not (dt_val (de_callB cd_isi ne_gIsi T.n_isinstance (by decide +kernel) (da_cons (de_var 0) (da_cons (de_bltn T.n_tuple (by decide +kernel)) da_nil)))))))) (dw_or1 (DW.dt (dw_and (dt_val (de_callB cd_isi ne_gIsi T.n_isinstance (by decide +kernel) (da_cons (de_var 1) (da_cons (de_bltn T.n_list (by decide +kernel)) da_nil)))) (dw_and1 (dt_not (dt_val (de_callB cd_isi ne_gIsi T.n_isinstance (by decide +kernel) (da_cons (de_var 0) (da_cons (de_bltn T.n_list (by decide +kernel)) da_nil)))))))))))
      (dss_one (ds_ret de_bl))
      dss_nil)
    (dss_one (ds_ret (de_and (de_cmp (od_eq hu4) ne_eq (de_callB cd_len ne_g1 T.n_len (by decide +kernel) (da_cons (de_var 0) da_nil)) (de_callB cd_len ne_g1 T.n_len (by decide +kernel) (da_cons (de_var 1) da_nil))) (de_one (de_callB (cd_all rfl) ne_g1 T.n_all (by decide +kernel) (da_cons (de_lc nd (di_range1 T.n_range (da_cons (de_callB cd_len ne_g1 T.n_len (by decide +kernel) (da_cons (de_var 1) da_nil)) da_nil)) (blkOk_by (own := [("_law_k", 2)]) (N := N__law_same) (sc := defScope s__law_same) (by decide +kernel)) rfl (by decide) (fun _ _ _ _ _ => (dg_name nd (i := 2))) (fun _ _ _ _ _ => dts_nil) (fun _ _ _ _ _ => (de_call O__law_same (hr.mono (by omega)) takes0 (da_cons (de_ix (de_var 0) (de_var 2)) (da_cons (de_ix (de_var 1) (de_var 2)) da_nil))))) da_nil)))))))))))
theorem ok__law_same (T : Tx P K mg) : FnG P w ⟨K, CC clsL K⟩ mg base 10 "_law_same" ["_law_told", "_law_due"] (F__law_same 8) := okr__law_same T 8
theorem exi_LineError (T : Tx P K mg) : ∃ fd, FnOk P w K mg base (L2.CX P w) 1 (He.ma K (He.ga K "LineError") "__init__") fd ["self", "line"] (spS K (He.ga K "LineError") ["line"]) ∧ Binds K fd ["self", "line"] [] := by
  obtain ⟨fd, U⟩ := T.us_LineError
  refine ⟨fd, ?_, FunS.bindsN U fun _ _ _ _ _ _ _ us hl => match us, hl with | [_, _], _ => rfl⟩
  exact (DX.fn_super (ps := ["self", "line"]) (k := 0) U ⟨rfl, rfl, rfl, by decide +kernel, by decide +kernel, by decide +kernel, by decide +kernel⟩ rfl rfl rfl rfl T.n_super T.tp (fun _ _ _ _ _ _ _ => pe_str) (fun _ _ _ _ _ _ _ => (pss_one (ps_ost (pv 0) (pv 1)))) (fun _ _ _ => ⟨rfl, rfl, rfl, rfl⟩)).imp fun vs H Q E z => spT_one vs H Q E z
theorem ok_exc_RuleError (T : Tx P K mg) : ExG P w ⟨K, CC clsL K⟩ mg base 1 "RuleError" ["line"] := by
  obtain ⟨fd, FO, hb⟩ := exi_LineError (P := P) (w := w) (base := base) T
  obtain ⟨h1, h2⟩ := He.ba T.ini_RuleError
  exact exG_of T.gk_RuleError (show clsOf clsL K "RuleError" = some (He.ga K "RuleError") from clsOf_in (by decide)) (supB_ok T.sup_RuleError) (He.eqO_ok h1) (of_decide_eq_true h2) (noatL T.na (by decide)) FO hb
abbrev s_order : Stmt := top 19
abbrev N_order : List Str := ["text"]
theorem sc_order : FnScope N_order ["text"] (defScope s_order) := ⟨rfl, rfl, rfl, by decide +kernel, rfl, by decide +kernel, by decide +kernel⟩
theorem ok_order (T : Tx P K mg) : FnG P w ⟨K, CC clsL K⟩ mg base 1 "order" ["text"] F_order := by
  refine fn_global (N := N_order) (b := b_order) T.u_order T.g_order sc_order (by decide) (fun _ _ _ _ _ _ us hl => match us, hl with | [_], _ => rfl) (fun cdv A outer s H E hr hp tk => ?_)
  have nd := sc_order.nd
  have hu4 := hr.units
  have hu1 := room1 hr
  have hu5 := room5 hr
  exact (dss_one (ds_ret (de_tup (da_cons (de_callB cd_len ne_g1 T.n_len (by decide +kernel) (da_cons (de_var 0) da_nil)) (da_cons (de_callTy cd_tuple ne_gTuple T.n_tuple (by decide +kernel) (da_cons (de_var 0) da_nil)) da_nil)))))
abbrev s_is_word : Stmt := top 14
abbrev N_is_word : List Str := ["word", "char"]
theorem sc_is_word : FnScope N_is_word ["word"] (defScope s_is_word) := ⟨rfl, rfl, rfl, by decide +kernel, rfl, by decide +kernel, by decide +kernel⟩
theorem ok_is_word (T : Tx P K mg) : FnG P w ⟨K, CC clsL K⟩ mg base 1 "is_word" ["word"] F_is_word := by
  refine fn_global (N := N_is_word) (b := b_is_word) T.u_is_word T.g_is_word sc_is_word (by decide) (fun _ _ _ _ _ _ us hl => match us, hl with | [_], _ => rfl) (fun cdv A outer s H E hr hp tk => ?_)
  have nd := sc_is_word.nd
  have hu4 := hr.units
  have hu1 := room1 hr
  have hu5 := room5 hr
  exact (dss_one (ds_ret (de_and (de_chain od_le ne_opO od_le ne_opO de_int (de_callB cd_len ne_g1 T.n_len (by decide +kernel) (da_cons (de_var 0) da_nil)) de_int (fun _ _ _ _ _ h1 h2 h3 h4 h5 => pe_chain h1 h2 h3 h4 h5)) (de_one (de_callB (cd_all rfl) ne_g1 T.n_all (by decide +kernel) (da_cons (de_lc nd (di_seq (de_var 0)) (blkOk_by (own := [("char", 1)]) (N := N_is_word) (sc := defScope s_is_word) (by decide +kernel)) rfl (by decide) (fun _ _ _ _ _ => (dg_name nd (i := 1))) (fun _ _ _ _ _ => dts_nil) (fun _ _ _ _ _ => (de_cmp (od_in hu5) ne_in (de_var 1) (de_op od_add ne_add (de_op od_add ne_add (de_gS T.c_LOWER) (de_gS T.c_UPPER)) (de_gS T.c_DIGITS))))) da_nil))))))
abbrev s_is_sign : Stmt := top 15
abbrev N_is_sign : List Str := ["word"]
theorem sc_is_sign : FnScope N_is_sign ["word"] (defScope s_is_sign) := ⟨rfl, rfl, rfl, by decide +kernel, rfl, by decide +kernel, by decide +kernel⟩
theorem ok_is_sign (T : Tx P K mg) (O_is_word : FnG P w ⟨K, CC clsL K⟩ mg base 1 "is_word" ["word"] F_is_word) : FnG P w ⟨K, CC clsL K⟩ mg base 2 "is_sign" ["word"] F_is_sign := by
  refine fn_global (N := N_is_sign) (b := b_is_sign) T.u_is_sign T.g_is_sign sc_is_sign (by decide) (fun _ _ _ _ _ _ us hl => match us, hl with | [_], _ => rfl) (fun cdv A outer s H E hr hp tk => ?_)
  have nd := sc_is_sign.nd
  have hu4 := hr.units
  have hu1 := room1 hr
  have hu5 := room5 hr
  exact (dss_one (ds_ret (de_and (de_call O_is_word (hr.mono (by omega)) tk (da_cons (de_var 0) da_nil)) (de_one (de_cmp (od_in hu5) ne_in (de_ix (de_var 0) de_int) (de_gS T.c_LOWER))))))
abbrev s_least_words : Stmt := top 22
abbrev N_least_words : List Str := ["rules", "found", "changed", "name", "right", "word", "symbol", "x"]
theorem sc_least_words : FnScope N_least_words ["rules"] (defScope s_least_words) := ⟨rfl, rfl, rfl, by decide +kernel, rfl, by decide +kernel, by decide +kernel⟩
theorem ok_least_words (T : Tx P K mg) (O_is_sign : FnG P w ⟨K, CC clsL K⟩ mg base 2 "is_sign" ["word"] F_is_sign) (O_order : FnG P w ⟨K, CC clsL K⟩ mg base 1 "order" ["text"] F_order) : FnG P w ⟨K, CC clsL K⟩ mg base 3 "least_words" ["rules"] F_least_words := by
  refine fn_global (N := N_least_words) (b := b_least_words) T.u_least_words T.g_least_words sc_least_words (by decide) (fun _ _ _ _ _ _ us hl => match us, hl with | [_], _ => rfl) (fun cdv A outer s H E hr hp tk => ?_)
  have nd := sc_least_words.nd
  have hu4 := hr.units
  have hu1 := room1 hr
  have hu5 := room5 hr
  exact (dss_cons (ds_setO (i := 1) de_newK nd)
    (dss_cons (ds_setF (i := 2) de_bl nd)
    (dss_cons (ds_while hp (dt_val (de_var 2))
      (dss_cons (ds_setF (i := 2) de_bl nd)
      (dss_one (ds_for hp (di_seq (de_var 0)) (dg_tup (dgs_cons (dg_name nd (i := 3)) (dgs_cons (dg_name nd (i := 4)) dgs_nil)))
        (dss_cons (ds_if (dt_not (dt_val (de_callB (cd_all rfl) ne_g1 T.n_all (by decide +kernel) (da_cons (de_lc nd (di_seq (de_var 4)) (blkOk_by (own := [("x", 7)]) (N := N_least_words) (sc := defScope s_least_words) (by decide +kernel)) rfl (by decide) (fun _ _ _ _ _ => (dg_name nd (i := 7))) (fun _ _ _ _ _ => dts_nil) (fun _ _ _ _ _ => (de_or (de_call O_is_sign (hr.mono (by omega)) takes0 (da_cons (de_var 7) da_nil)) (de_one (de_cmp (od_in hu5) ne_in (de_var 7) (de_var 1)))))) da_nil))))
          (dss_one ds_continue)
          dss_nil)
        (dss_cons (ds_setF (i := 5) (de_tup da_nil) nd)
        (dss_cons (ds_for hp (di_seq (de_var 4)) (dg_name nd (i := 6))
          (dss_one (ds_setF (i := 5) (de_op od_add ne_add (de_var 5) (de_if (dt_val (de_call O_is_sign (hr.mono (by omega)) tk (da_cons (de_var 6) da_nil))) (de_tup (da_cons (de_var 6) da_nil)) (de_ixK hu1 (de_var 1) (de_var 6)))) nd)))
        (dss_one (ds_if (DW.dt (dw_or (dt_cmp (od_ni hu5) ne_ni (de_var 3) (de_var 1)) (dw_or1 (dt_cmp (od_lt hu4) ne_opO (de_call O_order (hr.mono (by omega)) tk (da_cons (de_var 5) da_nil)) (de_call O_order (hr.mono (by omega)) tk (da_cons (de_ixK hu1 (de_var 1) (de_var 3)) da_nil))))))
          (dss_cons (ds_put 1 hu1 (de_var 3) (de_var 5))
          (dss_one (ds_setF (i := 2) de_bl nd)))
          dss_nil)))))))))
    (dss_one (ds_lock 1 (ds_ret (de_var 1)))))))
abbrev s_is_name : Stmt := top 16
abbrev N_is_name : List Str := ["word"]
theorem sc_is_name : FnScope N_is_name ["word"] (defScope s_is_name) := ⟨rfl, rfl, rfl, by decide +kernel, rfl, by decide +kernel, by decide +kernel⟩
theorem ok_is_name (T : Tx P K mg) (O_is_word : FnG P w ⟨K, CC clsL K⟩ mg base 1 "is_word" ["word"] F_is_word) : FnG P w ⟨K, CC clsL K⟩ mg base 2 "is_name" ["word"] F_is_name := by
  refine fn_global (N := N_is_name) (b := b_is_name) T.u_is_name T.g_is_name sc_is_name (by decide) (fun _ _ _ _ _ _ us hl => match us, hl with | [_], _ => rfl) (fun cdv A outer s H E hr hp tk => ?_)
  have nd := sc_is_name.nd
  have hu4 := hr.units
  have hu1 := room1 hr
  have hu5 := room5 hr
  exact (dss_one (ds_ret (de_and (de_call O_is_word (hr.mono (by omega)) tk (da_cons (de_var 0) da_nil)) (de_one (de_cmp (od_in hu5) ne_in (de_ix (de_var 0) de_int) (de_gS T.c_UPPER))))))
abbrev s_reached_names : Stmt := top 25
abbrev N_reached_names : List Str := ["rules", "start", "found", "at", "name", "right", "symbol"]
theorem sc_reached_names : FnScope N_reached_names ["rules", "start"] (defScope s_reached_names) := ⟨rfl, rfl, rfl, by decide +kernel, rfl, by decide +kernel, by decide +kernel⟩
theorem ok_reached_names (T : Tx P K mg) (O_is_name : FnG P w ⟨K, CC clsL K⟩ mg base 2 "is_name" ["word"] F_is_name) : FnG P w ⟨K, CC clsL K⟩ mg base 3 "reached_names" ["rules", "start"] F_reached_names := by
  refine fn_global (N := N_reached_names) (b := b_reached_names) T.u_reached_names T.g_reached_names sc_reached_names (by decide) (fun _ _ _ _ _ _ us hl => match us, hl with | [_, _], _ => rfl) (fun cdv A outer s H E hr hp tk => ?_)
  have nd := sc_reached_names.nd
  have hu4 := hr.units
  have hu1 := room1 hr
  have hu5 := room5 hr
  exact (dss_cons (ds_setO (i := 2) (de_lst (da_cons (de_var 1) da_nil)) nd)
    (dss_cons (ds_setF (i := 3) de_int nd)
    (dss_cons (ds_while hp (dt_cmp (od_lt hu4) ne_opO (de_var 3) (de_callB cd_len ne_g1 T.n_len (by decide +kernel) (da_cons (de_var 2) da_nil)))
      (dss_cons (ds_for hp (di_seq (de_var 0)) (dg_tup (dgs_cons (dg_name nd (i := 4)) (dgs_cons (dg_name nd (i := 5)) dgs_nil)))
        (dss_one (ds_for hp (di_seq (de_var 5)) (dg_name nd (i := 6))
          (dss_one (ds_if (DW.dt (dw_and (dt_cmp (od_eq hu4) ne_eq (de_var 4) (de_ix (de_var 2) (de_var 3))) (dw_and (dt_val (de_call O_is_name (hr.mono (by omega)) tk (da_cons (de_var 6) da_nil))) (dw_and1 (dt_cmp (od_ni hu5) ne_ni (de_var 6) (de_var 2))))))
            (dss_one (ds_app 2 (de_var 6)))
            dss_nil)))))
      (dss_one (ds_augI 3 de_int nd))))
    (dss_one (ds_ret (de_var 2))))))
abbrev s_leading : Stmt := top 23
abbrev N_leading : List Str := ["symbols", "firsts", "least", "signs", "symbol"]
theorem sc_leading : FnScope N_leading ["symbols", "firsts", "least"] (defScope s_leading) := ⟨rfl, rfl, rfl, by decide +kernel, rfl, by decide +kernel, by decide +kernel⟩
theorem ok_leading (T : Tx P K mg) (O_is_sign : FnG P w ⟨K, CC clsL K⟩ mg base 2 "is_sign" ["word"] F_is_sign) : FnG P w ⟨K, CC clsL K⟩ mg base 3 "leading" ["symbols", "firsts", "least"] F_leading := by
  refine fn_global (N := N_leading) (b := b_leading) T.u_leading T.g_leading sc_leading (by decide) (fun _ _ _ _ _ _ us hl => match us, hl with | [_, _, _], _ => rfl) (fun cdv A outer s H E hr hp tk => ?_)
  have nd := sc_leading.nd
  have hu4 := hr.units
  have hu1 := room1 hr
  have hu5 := room5 hr
  exact (dss_cons (ds_setO (i := 3) (de_lst da_nil) nd)
    (dss_cons (ds_for hp (di_seq (de_var 0)) (dg_name nd (i := 4))
      (dss_cons (ds_if (dt_val (de_call O_is_sign (hr.mono (by omega)) tk (da_cons (de_var 4) da_nil)))
        (dss_one (ds_ret (de_op od_add ne_add (de_var 3) (de_lst (da_cons (de_var 4) da_nil)))))
        dss_nil)
      (dss_cons (ds_setO (i := 3) (de_op od_add ne_add (de_var 3) (de_ixK hu1 (de_var 1) (de_var 4))) nd)
      (dss_one (ds_if (dt_tru (de_ixK hu1 (de_var 2) (de_var 4)))
        (dss_one (ds_ret (de_var 3)))
        dss_nil)))))
    (dss_one (ds_ret (de_op od_add ne_add (de_var 3) (de_lst (da_cons (de_cval T.cv_Signs_END) da_nil)))))))
abbrev s_first_signs : Stmt := top 24
abbrev N_first_signs : List Str := ["rules", "least", "firsts", "changed", "name", "right", "sign"]
theorem sc_first_signs : FnScope N_first_signs ["rules", "least"] (defScope s_first_signs) := ⟨rfl, rfl, rfl, by decide +kernel, rfl, by decide +kernel, by decide +kernel⟩
theorem ok_first_signs (T : Tx P K mg) (O_leading : FnG P w ⟨K, CC clsL K⟩ mg base 3 "leading" ["symbols", "firsts", "least"] F_leading) : FnG P w ⟨K, CC clsL K⟩ mg base 4 "first_signs" ["rules", "least"] F_first_signs := by
  refine fn_global (N := N_first_signs) (b := b_first_signs) T.u_first_signs T.g_first_signs sc_first_signs (by decide) (fun _ _ _ _ _ _ us hl => match us, hl with | [_, _], _ => rfl) (fun cdv A outer s H E hr hp tk => ?_)
  have nd := sc_first_signs.nd
  have hu4 := hr.units
  have hu1 := room1 hr
  have hu5 := room5 hr
  exact (dss_cons (ds_setDcO (i := 2) nd (sw_trueD rfl rfl rfl (by decide +kernel)) (di_seq (de_var 1)) (blkOk_by (own := [("name", 4)]) (N := N_first_signs) (sc := defScope s_first_signs) (by decide +kernel)) rfl (by decide) (fun _ _ _ _ _ => (dg_name nd (i := 4))) (fun _ _ _ _ _ => dts_nil) (fun _ _ _ _ _ => (de_var 4)) (fun _ _ _ _ _ => (de_lst da_nil)))
    (dss_cons (ds_setF (i := 3) de_bl nd)
    (dss_cons (ds_while hp (dt_val (de_var 3))
      (dss_cons (ds_setF (i := 3) de_bl nd)
      (dss_one (ds_for hp (di_seq (de_var 0)) (dg_tup (dgs_cons (dg_name nd (i := 4)) (dgs_cons (dg_name nd (i := 5)) dgs_nil)))
        (dss_one (ds_for hp (di_seq (de_call O_leading (hr.mono (by omega)) tk (da_cons (de_var 5) (da_cons (de_var 2) (da_cons (de_var 1) da_nil))))) (dg_name nd (i := 6))
          (dss_one (ds_if (DW.dt (dw_and (dt_cmp (od_ne hu4) ne_ne (de_var 6) (de_cval T.cv_Signs_END)) (dw_and1 (dt_cmp (od_ni hu5) ne_ni (de_var 6) (de_ixK hu1 (de_var 2) (de_var 4))))))
            (dss_cons (ds_put 2 hu1 (de_var 4) (de_op od_add ne_add (de_ixK hu1 (de_var 2) (de_var 4)) (de_lst (da_cons (de_var 6) da_nil))))
            (dss_one (ds_setF (i := 3) de_bl nd)))
            dss_nil))))))))
    (dss_one (ds_lock 2 (ds_ret (de_var 2)))))))
theorem exi_TooLarge (T : Tx P K mg) : ∃ fd, FnOk P w K mg base (L2.CX P w) 1 (He.ma K (He.ga K "TooLarge") "__init__") fd ["self", "what"] (spS K (He.ga K "TooLarge") ["what"]) ∧ Binds K fd ["self", "what"] [] := by
  obtain ⟨fd, U⟩ := T.us_TooLarge
  refine ⟨fd, ?_, FunS.bindsN U fun _ _ _ _ _ _ _ us hl => match us, hl with | [_, _], _ => rfl⟩
  exact (DX.fn_super (ps := ["self", "what"]) (k := 0) U ⟨rfl, rfl, rfl, by decide +kernel, by decide +kernel, by decide +kernel, by decide +kernel⟩ rfl rfl rfl rfl T.n_super T.tp (fun _ _ _ _ _ _ _ => pe_str) (fun _ _ _ _ _ _ _ => (pss_one (ps_ost (pv 0) (pv 1)))) (fun _ _ _ => ⟨rfl, rfl, rfl, rfl⟩)).imp fun vs H Q E z => spT_one vs H Q E z
theorem ok_exc_TooLarge (T : Tx P K mg) : ExG P w ⟨K, CC clsL K⟩ mg base 1 "TooLarge" ["what"] := by
  obtain ⟨fd, FO, hb⟩ := exi_TooLarge (P := P) (w := w) (base := base) T
  obtain ⟨h1, h2⟩ := He.ba T.ini_TooLarge
  exact exG_of T.gk_TooLarge (show clsOf clsL K "TooLarge" = some (He.ga K "TooLarge") from clsOf_in (by decide)) (supB_ok T.sup_TooLarge) (He.eqO_ok h1) (of_decide_eq_true h2) (noatL T.na (by decide)) FO hb
theorem exi_NameFault (T : Tx P K mg) : ∃ fd, FnOk P w K mg base (L2.CX P w) 1 (He.ma K (He.ga K "NameFault") "__init__") fd ["self", "name"] (spS K (He.ga K "NameFault") ["name"]) ∧ Binds K fd ["self", "name"] [] := by
  obtain ⟨fd, U⟩ := T.us_NameFault
  refine ⟨fd, ?_, FunS.bindsN U fun _ _ _ _ _ _ _ us hl => match us, hl with | [_, _], _ => rfl⟩
  exact (DX.fn_super (ps := ["self", "name"]) (k := 0) U ⟨rfl, rfl, rfl, by decide +kernel, by decide +kernel, by decide +kernel, by decide +kernel⟩ rfl rfl rfl rfl T.n_super T.tp (fun _ _ _ _ _ _ _ => pe_str) (fun _ _ _ _ _ _ _ => (pss_one (ps_ost (pv 0) (pv 1)))) (fun _ _ _ => ⟨rfl, rfl, rfl, rfl⟩)).imp fun vs H Q E z => spT_one vs H Q E z
theorem ok_exc_Barren (T : Tx P K mg) : ExG P w ⟨K, CC clsL K⟩ mg base 1 "Barren" ["name"] := by
  obtain ⟨fd, FO, hb⟩ := exi_NameFault (P := P) (w := w) (base := base) T
  obtain ⟨h1, h2⟩ := He.ba T.ini_Barren
  exact exG_of T.gk_Barren (show clsOf clsL K "Barren" = some (He.ga K "Barren") from clsOf_in (by decide)) (supB_ok T.sup_Barren) (He.eqO_ok h1) (of_decide_eq_true h2) (noatL T.na (by decide)) FO hb
theorem ok_exc_Unreached (T : Tx P K mg) : ExG P w ⟨K, CC clsL K⟩ mg base 1 "Unreached" ["name"] := by
  obtain ⟨fd, FO, hb⟩ := exi_NameFault (P := P) (w := w) (base := base) T
  obtain ⟨h1, h2⟩ := He.ba T.ini_Unreached
  exact exG_of T.gk_Unreached (show clsOf clsL K "Unreached" = some (He.ga K "Unreached") from clsOf_in (by decide)) (supB_ok T.sup_Unreached) (He.eqO_ok h1) (of_decide_eq_true h2) (noatL T.na (by decide)) FO hb
abbrev s_is_rule : Stmt := top 20
abbrev N_is_rule : List Str := ["name", "symbols", "most", "x"]
theorem sc_is_rule : FnScope N_is_rule ["name", "symbols", "most"] (defScope s_is_rule) := ⟨rfl, rfl, rfl, by decide +kernel, rfl, by decide +kernel, by decide +kernel⟩
theorem ok_is_rule (T : Tx P K mg) (O_is_name : FnG P w ⟨K, CC clsL K⟩ mg base 2 "is_name" ["word"] F_is_name) (O_is_sign : FnG P w ⟨K, CC clsL K⟩ mg base 2 "is_sign" ["word"] F_is_sign) : FnG P w ⟨K, CC clsL K⟩ mg base 3 "is_rule" ["name", "symbols", "most"] F_is_rule := by
  refine fn_global (N := N_is_rule) (b := b_is_rule) T.u_is_rule T.g_is_rule sc_is_rule (by decide) (fun _ _ _ _ _ _ us hl => match us, hl with | [_, _, _], _ => rfl) (fun cdv A outer s H E hr hp tk => ?_)
  have nd := sc_is_rule.nd
  have hu4 := hr.units
  have hu1 := room1 hr
  have hu5 := room5 hr
  exact (dss_one (ds_ret (de_and (de_call O_is_name (hr.mono (by omega)) tk (da_cons (de_var 0) da_nil)) (de_and (de_cmp od_le ne_opO (de_callB cd_len ne_g1 T.n_len (by decide +kernel) (da_cons (de_var 1) da_nil)) (de_var 2)) (de_one (de_callB (cd_all rfl) ne_g1 T.n_all (by decide +kernel) (da_cons (de_lc nd (di_seq (de_var 1)) (blkOk_by (own := [("x", 3)]) (N := N_is_rule) (sc := defScope s_is_rule) (by decide +kernel)) rfl (by decide) (fun _ _ _ _ _ => (dg_name nd (i := 3))) (fun _ _ _ _ _ => dts_nil) (fun _ _ _ _ _ => (de_or (de_call O_is_name (hr.mono (by omega)) takes0 (da_cons (de_var 3) da_nil)) (de_one (de_call O_is_sign (hr.mono (by omega)) takes0 (da_cons (de_var 3) da_nil)))))) da_nil)))))))
abbrev s_Grammar_init : Stmt := inClass (top 26) 5
abbrev N_Grammar_init : List Str := ["self", "rules", "line", "name", "right", "words", "sizes", "most", "k", "what", "reached", "x"]
theorem sc_Grammar_init : FnScope N_Grammar_init ["self", "rules"] (defScope s_Grammar_init) := ⟨rfl, rfl, rfl, by decide +kernel, rfl, by decide +kernel, by decide +kernel⟩
theorem ok_Grammar_init (T : Tx P K mg) (O_exc_RuleError : ExG P w ⟨K, CC clsL K⟩ mg base 1 "RuleError" ["line"]) (O_is_rule : FnG P w ⟨K, CC clsL K⟩ mg base 3 "is_rule" ["name", "symbols", "most"] F_is_rule) (O_is_name : FnG P w ⟨K, CC clsL K⟩ mg base 2 "is_name" ["word"] F_is_name) (O_is_sign : FnG P w ⟨K, CC clsL K⟩ mg base 2 "is_sign" ["word"] F_is_sign) (O_exc_TooLarge : ExG P w ⟨K, CC clsL K⟩ mg base 1 "TooLarge" ["what"]) (O_least_words : FnG P w ⟨K, CC clsL K⟩ mg base 3 "least_words" ["rules"] F_least_words) (O_exc_Barren : ExG P w ⟨K, CC clsL K⟩ mg base 1 "Barren" ["name"]) (O_reached_names : FnG P w ⟨K, CC clsL K⟩ mg base 3 "reached_names" ["rules", "start"] F_reached_names) (O_exc_Unreached : ExG P w ⟨K, CC clsL K⟩ mg base 1 "Unreached" ["name"]) (O_first_signs : FnG P w ⟨K, CC clsL K⟩ mg base 4 "first_signs" ["rules", "least"] F_first_signs) : InG P w ⟨K, CC clsL K⟩ mg base 5 "Grammar" 1 I_Grammar_init := by
  obtain ⟨fd, U⟩ := T.u_Grammar_init
  refine ⟨He.ga K "Grammar", _, fd, ["self", "rules"], T.gk_Grammar, (show clsOf clsL K "Grammar" = some (He.ga K "Grammar") from clsOf_in (by decide)), T.mk_Grammar, ?_, FunD.bindsN (ps := ["self", "rules"]) U (fun _ _ _ _ _ _ us hl => match us, hl with | [_, _], _ => rfl)⟩
  refine fn_init (C := CC clsL K) (N := N_Grammar_init) (b := b_Grammar_init) U sc_Grammar_init rfl (fun a cdv A outer s H E hr hp tk => ?_)
  have nd := sc_Grammar_init.nd
  have hu4 := hr.units
  have hu1 := room1 hr
  have hu5 := room5 hr
  exact (dss_cons (ds_if (dt_cmp (od_eq hu4) ne_eq (de_callB cd_len ne_g1 T.n_len (by decide +kernel) (da_cons (de_var 1) da_nil)) de_int)
      (dss_one (ds_raise (O_exc_RuleError.cx (C := CC clsL K) rfl) (hr.mono (by omega)) tk (da_cons de_int da_nil)))
      dss_nil)
    (dss_cons (ds_for hp (di_enum T.n_enumerate (da_cons (de_var 1) da_nil)) (dg_tup (dgs_cons (dg_name nd (i := 2)) (dgs_cons (dg_tup (dgs_cons (dg_name nd (i := 3)) (dgs_cons (dg_name nd (i := 4)) dgs_nil))) dgs_nil)))
      (dss_one (ds_if (dt_not (dt_val (de_call (O_is_rule.cx (C := CC clsL K) rfl rfl) (hr.mono (by omega)) tk (da_cons (de_var 3) (da_cons (de_var 4) (da_cons (de_cval T.cv_Grammar_MOST_SYMBOLS) da_nil))))))
        (dss_one (ds_raise (O_exc_RuleError.cx (C := CC clsL K) rfl) (hr.mono (by omega)) tk (da_cons (de_var 2) da_nil)))
        dss_nil)))
    (dss_cons (ds_setFld 0 (fo_rules T rfl) (de_callTy cd_tuple ne_gTuple T.n_tuple (by decide +kernel) (da_cons (de_lc nd (di_seq (de_var 1)) (blkOk_by (own := [("name", 3), ("right", 4)]) (N := N_Grammar_init) (sc := defScope s_Grammar_init) (by decide +kernel)) rfl (by decide) (fun _ _ _ _ _ => (dg_tup (dgs_cons (dg_name nd (i := 3)) (dgs_cons (dg_name nd (i := 4)) dgs_nil)))) (fun _ _ _ _ _ => dts_nil) (fun _ _ _ _ _ => (de_tup (da_cons (de_var 3) (da_cons (de_callTy cd_tuple ne_gTuple T.n_tuple (by decide +kernel) (da_cons (de_var 4) da_nil)) da_nil))))) da_nil)))
    (dss_cons (ds_setF (i := 5) (de_op od_add ne_add (de_lc nd (di_seq (de_fld (fo_rules T rfl) (de_var 0))) (blkOk_by (own := [("name", 3), ("right", 4)]) (N := N_Grammar_init) (sc := defScope s_Grammar_init) (by decide +kernel)) rfl (by decide) (fun _ _ _ _ _ => (dg_tup (dgs_cons (dg_name nd (i := 3)) (dgs_cons (dg_name nd (i := 4)) dgs_nil)))) (fun _ _ _ _ _ => dts_nil) (fun _ _ _ _ _ => (de_var 3))) (de_lc2 nd (di_seq (de_fld (fo_rules T rfl) (de_var 0))) (blkOk_by (own := [("name", 3), ("right", 4), ("x", 11)]) (N := N_Grammar_init) (sc := defScope s_Grammar_init) (by decide +kernel)) rfl (by decide) (by decide) (by decide) (nw_tup (nw_cons (nw_name 3) (nw_cons (nw_name 4) nw_nil))) (nw_name 11) (fun _ _ _ _ _ => (dg_tup (dgs_cons (dg_name nd (i := 3)) (dgs_cons (dg_name nd (i := 4)) dgs_nil)))) (fun _ _ _ _ _ => dts_nil) (fun _ _ _ _ _ => (di_seq (de_var 4))) (fun _ _ _ _ _ => (dg_name nd (i := 11))) (fun _ _ _ _ _ => dts_nil) (fun _ _ _ _ _ => (de_var 11)))) nd)
    (dss_cons (ds_setFld 0 (fo_names T rfl) (de_callTy cd_tuple ne_gTuple T.n_tuple (by decide +kernel) (da_cons (de_sortSc T.n_sorted nd (di_seq (de_var 5)) (blkOk_by (own := [("x", 11)]) (N := N_Grammar_init) (sc := defScope s_Grammar_init) (by decide +kernel)) rfl (by decide) (fun _ _ _ _ _ => (dg_name nd (i := 11))) (fun _ _ _ _ _ => (dts_one (dt_val (de_call (O_is_name.cx (C := CC clsL K) rfl rfl) (hr.mono (by omega)) takes0 (da_cons (de_var 11) da_nil))))) (fun _ _ _ _ _ => (de_var 11))) da_nil)))
    (dss_cons (ds_setFld 0 (fo_signs T rfl) (de_callTy cd_tuple ne_gTuple T.n_tuple (by decide +kernel) (da_cons (de_sortSc T.n_sorted nd (di_seq (de_var 5)) (blkOk_by (own := [("x", 11)]) (N := N_Grammar_init) (sc := defScope s_Grammar_init) (by decide +kernel)) rfl (by decide) (fun _ _ _ _ _ => (dg_name nd (i := 11))) (fun _ _ _ _ _ => (dts_one (dt_val (de_call (O_is_sign.cx (C := CC clsL K) rfl rfl) (hr.mono (by omega)) takes0 (da_cons (de_var 11) da_nil))))) (fun _ _ _ _ _ => (de_var 11))) da_nil)))
    (dss_cons (ds_setFld 0 (fo_start T rfl) (de_ix (de_ix (de_fld (fo_rules T rfl) (de_var 0)) de_int) de_int))
    (dss_cons (ds_setF (i := 6) (de_lst (da_cons (de_callB cd_len ne_g1 T.n_len (by decide +kernel) (da_cons (de_fld (fo_rules T rfl) (de_var 0)) da_nil)) (da_cons (de_callB cd_len ne_g1 T.n_len (by decide +kernel) (da_cons (de_fld (fo_names T rfl) (de_var 0)) da_nil)) (da_cons (de_callB cd_len ne_g1 T.n_len (by decide +kernel) (da_cons (de_fld (fo_signs T rfl) (de_var 0)) da_nil)) da_nil)))) nd)
    (dss_cons (ds_setF (i := 7) (de_lst (da_cons (de_cval T.cv_Grammar_MOST_RULES) (da_cons (de_cval T.cv_Grammar_MOST_NAMES) (da_cons (de_cval T.cv_Grammar_MOST_SIGNS) da_nil)))) nd)
    (dss_cons (ds_for hp (di_enum T.n_enumerate (da_cons (de_lst (da_cons de_str (da_cons de_str (da_cons de_str da_nil)))) da_nil)) (dg_tup (dgs_cons (dg_name nd (i := 8)) (dgs_cons (dg_name nd (i := 9)) dgs_nil)))
      (dss_one (ds_if (dt_cmp od_gt ne_opO (de_ix (de_var 6) (de_var 8)) (de_ix (de_var 7) (de_var 8)))
        (dss_one (ds_raise (O_exc_TooLarge.cx (C := CC clsL K) rfl) (hr.mono (by omega)) tk (da_cons (de_var 9) da_nil)))
        dss_nil)))
    (dss_cons (ds_setFld 0 (fo_least T rfl) (de_call (O_least_words.cx (C := CC clsL K) rfl rfl) (hr.mono (by omega)) tk (da_cons (de_fld (fo_rules T rfl) (de_var 0)) da_nil)))
    (dss_cons (ds_for hp (di_seq (de_fld (fo_names T rfl) (de_var 0))) (dg_name nd (i := 3))
      (dss_one (ds_if (dt_cmp (od_ni hu5) ne_ni (de_var 3) (de_fld (fo_least T rfl) (de_var 0)))
        (dss_one (ds_raise (O_exc_Barren.cx (C := CC clsL K) rfl) (hr.mono (by omega)) tk (da_cons (de_var 3) da_nil)))
        dss_nil)))
    (dss_cons (ds_setF (i := 10) (de_call (O_reached_names.cx (C := CC clsL K) rfl rfl) (hr.mono (by omega)) tk (da_cons (de_fld (fo_rules T rfl) (de_var 0)) (da_cons (de_fld (fo_start T rfl) (de_var 0)) da_nil))) nd)
    (dss_cons (ds_for hp (di_seq (de_fld (fo_names T rfl) (de_var 0))) (dg_name nd (i := 3))
      (dss_one (ds_if (dt_cmp (od_ni hu5) ne_ni (de_var 3) (de_var 10))
        (dss_one (ds_raise (O_exc_Unreached.cx (C := CC clsL K) rfl) (hr.mono (by omega)) tk (da_cons (de_var 3) da_nil)))
        dss_nil)))
    (dss_cons (ds_for hp (di_seq (de_fld (fo_names T rfl) (de_var 0))) (dg_name nd (i := 3))
      (dss_one (ds_if (dt_cmp od_gt ne_opO (de_callB cd_len ne_g1 T.n_len (by decide +kernel) (da_cons (de_ixK hu1 (de_fld (fo_least T rfl) (de_var 0)) (de_var 3)) da_nil)) (de_cval T.cv_Grammar_MOST_WORD))
        (dss_one (ds_raise (O_exc_TooLarge.cx (C := CC clsL K) rfl) (hr.mono (by omega)) tk (da_cons de_str da_nil)))
        dss_nil)))
    (dss_one (ds_setFld 0 (fo_firsts T rfl) (de_call (O_first_signs.cx (C := CC clsL K) rfl rfl) (hr.mono (by omega)) tk (da_cons (de_fld (fo_rules T rfl) (de_var 0)) (da_cons (de_fld (fo_least T rfl) (de_var 0)) da_nil))))))))))))))))))))
abbrev s_parse_rule : Stmt := top 21
abbrev N_parse_rule : List Str := ["line", "most", "words"]
theorem sc_parse_rule : FnScope N_parse_rule ["line", "most"] (defScope s_parse_rule) := ⟨rfl, rfl, rfl, by decide +kernel, rfl, by decide +kernel, by decide +kernel⟩
theorem ok_parse_rule (T : Tx P K mg) (O_is_rule : FnG P w ⟨K, CC clsL K⟩ mg base 3 "is_rule" ["name", "symbols", "most"] F_is_rule) : FnG P w ⟨K, CC clsL K⟩ mg base 4 "parse_rule" ["line", "most"] F_parse_rule := by
  refine fn_global (N := N_parse_rule) (b := b_parse_rule) T.u_parse_rule T.g_parse_rule sc_parse_rule (by decide) (fun _ _ _ _ _ _ us hl => match us, hl with | [_, _], _ => rfl) (fun cdv A outer s H E hr hp tk => ?_)
  have nd := sc_parse_rule.nd
  have hu4 := hr.units
  have hu1 := room1 hr
  have hu5 := room5 hr
  exact (dss_cons (ds_setF (i := 2) (de_split (de_var 0) de_str) nd)
    (dss_cons (ds_if (DW.dt (dw_or (dt_cmp (od_lt hu4) ne_opO (de_callB cd_len ne_g1 T.n_len (by decide +kernel) (da_cons (de_var 2) da_nil)) de_int) (dw_or (dt_cmp (od_ne hu4) ne_ne (de_ix (de_var 2) de_int) de_str) (dw_or1 (dt_not (dt_val (de_call O_is_rule (hr.mono (by omega)) tk (da_cons (de_ix (de_var 2) de_int) (da_cons (de_sl (de_var 2) (do_some de_int) do_none) (da_cons (de_var 1) da_nil))))))))))
      (dss_one (ds_ret de_non))
      dss_nil)
    (dss_one (ds_ret (de_tup (da_cons (de_ix (de_var 2) de_int) (da_cons (de_callTy cd_tuple ne_gTuple T.n_tuple (by decide +kernel) (da_cons (de_sl (de_var 2) (do_some de_int) do_none) da_nil)) da_nil)))))))
abbrev s_Grammar_read : Stmt := inClass (top 26) 6
abbrev N_Grammar_read : List Str := ["cls", "text", "rules", "line", "row", "rule"]
theorem sc_Grammar_read : FnScope N_Grammar_read ["cls", "text"] (defScope s_Grammar_read) := ⟨rfl, rfl, rfl, by decide +kernel, rfl, by decide +kernel, by decide +kernel⟩
theorem ok_Grammar_read (T : Tx P K mg) (O_parse_rule : FnG P w ⟨K, CC clsL K⟩ mg base 4 "parse_rule" ["line", "most"] F_parse_rule) (O_exc_RuleError : ExG P w ⟨K, CC clsL K⟩ mg base 1 "RuleError" ["line"]) (O_Grammar_init : InG P w ⟨K, CC clsL K⟩ mg base 5 "Grammar" 1 I_Grammar_init) : CmG P w ⟨K, CC clsL K⟩ mg base 7 "Grammar" "read" 1 false F_Grammar_read := by
  obtain ⟨fd, U⟩ := T.u_Grammar_read
  refine ⟨He.ga K "Grammar", T.gk_Grammar, (show clsOf clsL K "Grammar" = some (He.ga K "Grammar") from clsOf_in (by decide)), T.cr_Grammar, T.cm_Grammar_read, ?_⟩
  have FO : FnOk P w K mg base (L2.CX P w) 7 (cmA K (He.ga K "Grammar") "read") fd ["cls", "text"] (spD ⟨K, CC clsL K⟩ 2 F_Grammar_read) := ?_
  · exact (FO.raw (FunD.bindsN (ps := ["cls", "text"]) U (fun _ _ _ _ _ _ us hl => match us, hl with | [_, _], _ => rfl)) .nil).imp fun vs H Q E z => by rw [List.append_nil]; exact z
  refine fn_dataD (K := ⟨K, CC clsL K⟩) (N := N_Grammar_read) (b := b_Grammar_read) U sc_Grammar_read (by decide) (fun cdv A outer s H E hr hp tk => ?_)
  have nd := sc_Grammar_read.nd
  have hu4 := hr.units
  have hu1 := room1 hr
  have hu5 := room5 hr
  exact (dss_cons (ds_setO (i := 2) (de_lst da_nil) nd)
    (dss_cons (ds_for hp (di_enum T.n_enumerate (da_cons (de_split (de_var 1) de_str) da_nil)) (dg_tup (dgs_cons (dg_name nd (i := 3)) (dgs_cons (dg_name nd (i := 4)) dgs_nil)))
      (dss_cons (ds_setF (i := 5) (de_call O_parse_rule (hr.mono (by omega)) tk (da_cons (de_var 4) (da_cons (de_cval T.cv_Grammar_MOST_SYMBOLS) da_nil))) nd)
      (dss_cons (ds_if (dt_cmp od_is ne_is (de_var 5) de_non)
        (dss_one (ds_raise O_exc_RuleError (hr.mono (by omega)) tk (da_cons (de_var 3) da_nil)))
        dss_nil)
      (dss_one (ds_app 2 (de_var 5))))))
    (dss_one (ds_frz 2 (ds_ret (de_makeL 0 O_Grammar_init (hr.mono (by omega)) tk (da_cons (de_var 2) da_nil)))))))
abbrev s__law_lines : Stmt := top 35
abbrev N__law_lines : List Str := ["_law_rules", "_law_rule"]
theorem sc__law_lines : FnScope N__law_lines ["_law_rules"] (defScope s__law_lines) := ⟨rfl, rfl, rfl, by decide +kernel, rfl, by decide +kernel, by decide +kernel⟩
theorem ok__law_lines (T : Tx P K mg) : FnG P w ⟨K, CC clsL K⟩ mg base 1 "_law_lines" ["_law_rules"] F__law_lines := by
  refine fn_global (N := N__law_lines) (b := b__law_lines) T.u__law_lines T.g__law_lines sc__law_lines (by decide) (fun _ _ _ _ _ _ us hl => match us, hl with | [_], _ => rfl) (fun cdv A outer s H E hr hp tk => ?_)
  have nd := sc__law_lines.nd
  have hu4 := hr.units
  have hu1 := room1 hr
  have hu5 := room5 hr
  exact (dss_one (ds_ret (de_join de_str (de_lc nd (di_seq (de_var 0)) (blkOk_by (own := [("_law_rule", 1)]) (N := N__law_lines) (sc := defScope s__law_lines) (by decide +kernel)) rfl (by decide) (fun _ _ _ _ _ => (dg_name nd (i := 1))) (fun _ _ _ _ _ => dts_nil) (fun _ _ _ _ _ => (de_join de_str (de_op od_add ne_add (de_lst (da_cons (de_ix (de_var 1) de_int) (da_cons de_str da_nil))) (de_ix (de_var 1) de_int))))))))
abbrev s__law_fate : Stmt := top 37
abbrev N__law_fate : List Str := ["_law_rules", "_law_grammar", "e", "_law_barren"]
theorem sc__law_fate : FnScope N__law_fate ["_law_rules"] (defScope s__law_fate) := ⟨rfl, rfl, rfl, by decide +kernel, rfl, by decide +kernel, by decide +kernel⟩
def b__law_fate : DL.Env → Out :=
    (mSeq (mTry 2 (tabS [("AwaitError", false), ("LineError", false), ("RuleError", false), ("TooLarge", false), ("NameFault", true), ("Barren", true), ("Unreached", true), ("SymbolError", false)]) (mSetF 1 (mFn (cmD "Grammar" false F_Grammar_read) (mCons (mFn F__law_lines (mCons (mV 0) mNil) 1) mNil) 1))
      (mSeq (mSetF 3 (mIsEC ["NameFault", "Barren", "Unreached"] 2 (tabS [("AwaitError", false), ("LineError", false), ("RuleError", false), ("TooLarge", false), ("NameFault", false), ("Barren", true), ("Unreached", false), ("SymbolError", false)])))
      (mSeq (mIfS (mOr (mB (m2 (mV 3) (mIsEC ["NameFault", "Barren", "Unreached"] 2 (tabS [("AwaitError", false), ("LineError", false), ("RuleError", false), ("TooLarge", false), ("NameFault", false), ("Barren", false), ("Unreached", true), ("SymbolError", false)])) opEq)) (mOr (mB (mIsEC ["NameFault", "Barren", "Unreached"] 2 (tabS [("AwaitError", false), ("LineError", true), ("RuleError", true), ("TooLarge", false), ("NameFault", false), ("Barren", false), ("Unreached", false), ("SymbolError", false)]))) (mB (mIsEC ["NameFault", "Barren", "Unreached"] 2 (tabS [("AwaitError", false), ("LineError", false), ("RuleError", false), ("TooLarge", true), ("NameFault", false), ("Barren", false), ("Unreached", false), ("SymbolError", false)])))))
        (mRet (mTup (mCons (mC (.str "other")) (mCons (mC (.str "")) mNil))))
        Out.nx)
      (mRet (mIf (mB (mIsEC ["NameFault", "Barren", "Unreached"] 2 (tabS [("AwaitError", true), ("LineError", true), ("RuleError", true), ("TooLarge", true), ("NameFault", true), ("Barren", true), ("Unreached", true), ("SymbolError", true)]))) (mTup (mCons (mIf (mB (mV 3)) (mC (.str "barren")) (mC (.str "unreached"))) (mCons (mXfC ["NameFault", "Barren", "Unreached"] 2 "name") mNil))) (mTup (mCons (mC (.str "other")) (mCons (mC (.str "")) mNil))))))))
    (mRet (mTup (mCons (mC (.str "made")) (mCons (mFld ["Grammar"] "start" (mV 1)) mNil)))))
def F__law_fate : Fn := runB 4 b__law_fate
theorem ok__law_fate (T : Tx P K mg) (O_Grammar_read : CmG P w ⟨K, CC clsL K⟩ mg base 7 "Grammar" "read" 1 false F_Grammar_read) (O__law_lines : FnG P w ⟨K, CC clsL K⟩ mg base 1 "_law_lines" ["_law_rules"] F__law_lines) : FnG P w ⟨K, CC clsL K⟩ mg base 8 "_law_fate" ["_law_rules"] F__law_fate := by
  refine fn_global (N := N__law_fate) (b := b__law_fate) T.u__law_fate T.g__law_fate sc__law_fate (by decide) (fun _ _ _ _ _ _ us hl => match us, hl with | [_], _ => rfl) (fun cdv A outer s H E hr hp tk => ?_)
  have nd := sc__law_fate.nd
  have hu4 := hr.units
  have hu1 := room1 hr
  have hu5 := room5 hr
  exact (dss_cons (ds_try (i := 2) (S := tabS [("AwaitError", false), ("LineError", false), ("RuleError", false), ("TooLarge", false), ("NameFault", true), ("Barren", true), ("Unreached", true), ("SymbolError", false)]) rfl rfl rfl nd rfl rfl ⟨rfl, by decide, .inl T.gk_NameFault⟩ (exmTab_ok T.exm_NameFault rfl) tk (fun W pn xe tk hp => (dss_one (ds_setF (i := 1) (de_cm O_Grammar_read (hr.mono (by omega)) tk 1 (da_cons (de_call O__law_lines (hr.mono (by omega)) tk (da_cons (de_var 0) da_nil)) da_nil)) nd)))
      (fun a oe Ca d pn hz hf => (dss_cons (ds_setF (i := 3) (de_isEC (cs := ["NameFault", "Barren", "Unreached"]) (S := tabS [("AwaitError", false), ("LineError", false), ("RuleError", false), ("TooLarge", false), ("NameFault", false), ("Barren", true), ("Unreached", false), ("SymbolError", false)]) (excTab_ok (excTab_sub T.exc (by decide)) rfl) hz hf T.n_isinstance T.gk_Barren (kitTab_ok T.kit_Barren rfl)) nd)
      (dss_cons (ds_if (DW.dt (dw_or (dt_cmp (od_eq hu4) ne_eq (de_var 3) (de_isEC (cs := ["NameFault", "Barren", "Unreached"]) (S := tabS [("AwaitError", false), ("LineError", false), ("RuleError", false), ("TooLarge", false), ("NameFault", false), ("Barren", false), ("Unreached", true), ("SymbolError", false)]) (excTab_ok (excTab_sub T.exc (by decide)) rfl) hz hf T.n_isinstance T.gk_Unreached (kitTab_ok T.kit_Unreached rfl))) (dw_or (dt_val (de_isEC (cs := ["NameFault", "Barren", "Unreached"]) (S := tabS [("AwaitError", false), ("LineError", true), ("RuleError", true), ("TooLarge", false), ("NameFault", false), ("Barren", false), ("Unreached", false), ("SymbolError", false)]) (excTab_ok (excTab_sub T.exc (by decide)) rfl) hz hf T.n_isinstance T.gk_LineError (kitTab_ok T.kit_LineError rfl))) (dw_or1 (dt_val (de_isEC (cs := ["NameFault", "Barren", "Unreached"]) (S := tabS [("AwaitError", false), ("LineError", false), ("RuleError", false), ("TooLarge", true), ("NameFault", false), ("Barren", false), ("Unreached", false), ("SymbolError", false)]) (excTab_ok (excTab_sub T.exc (by decide)) rfl) hz hf T.n_isinstance T.gk_TooLarge (kitTab_ok T.kit_TooLarge rfl)))))))
        (dss_one (ds_ret (de_tup (da_cons de_str (da_cons de_str da_nil)))))
        dss_nil)
      (dss_one (ds_ret (de_if (dt_val (de_isEC (cs := ["NameFault", "Barren", "Unreached"]) (S := tabS [("AwaitError", true), ("LineError", true), ("RuleError", true), ("TooLarge", true), ("NameFault", true), ("Barren", true), ("Unreached", true), ("SymbolError", true)]) (excTab_ok (excTab_sub T.exc (by decide)) rfl) hz hf T.n_isinstance T.gk_AwaitError (kitTab_ok T.kit_AwaitError rfl))) (de_tup (da_cons (de_if (dt_val (de_var 3)) de_str de_str) (da_cons (de_xfC (cs := ["NameFault", "Barren", "Unreached"]) (xfTab_ok (excTab_sub T.exc (by decide)) T.na (by decide) rfl) hz hf) da_nil))) (de_tup (da_cons de_str (da_cons de_str da_nil))))))))))
    (dss_one (ds_ret (de_tup (da_cons de_str (da_cons (de_fld (fo_start T rfl) (de_var 1)) da_nil))))))
abbrev s_law : Stmt := top 38
abbrev N_law : List Str := ["_law_script", "_law_draws_here", "_law_names", "_law_symbols", "_law_rules", "_law_k", "_law_at", "_law_right", "_law_used", "_law_rule", "_law_least_here", "_law_reached_here", "_law_barren", "_law_lost", "_law_due", "_law_good", "_law_each", "_law_j", "_law_x"]
theorem sc_law : FnScope N_law ["_law_script"] (defScope s_law) := ⟨rfl, rfl, rfl, by decide +kernel, rfl, by decide +kernel, by decide +kernel⟩
def e1_law : DL.Env → Rz EV :=
    (m2 (mV 3) (m2 (mCall (mCons (m2 (mV 1) (m2 (m2 (mV 6) (mC (.int 2)) opAdd) (mV 17) opAdd) opIx) mNil) gInt) (mC (.int 6)) opMod) opIx)
def l1_law : DL.Env → Out :=
    (mSeq (mSetF 6 (m2 (mC (.int 2)) (m2 (mC (.int 5)) (mV 5) opMul) opAdd))
      (mSeq (mSetF 7 (mLc (mRng1 (mCons (m2 (mCall (mCons (m2 (mV 1) (m2 (mV 6) (mC (.int 1)) opAdd) opIx) mNil) gInt) (mC (.int 4)) opMod) mNil)) (pName 17) mYes e1_law [17]))
      (mApp 4 (mLst (mCons (m2 (mV 2) (m2 (mCall (mCons (m2 (mV 1) (mV 6) opIx) mNil) gInt) (mC (.int 4)) opMod) opIx) (mCons (mV 7) mNil))))))
def t1_law : DL.Env → Rz Bool :=
    (mB (mFn F__law_name (mCons (mV 18) mNil) 1))
def e2_law : DL.Env → Rz EV :=
    (mV 18)
def l2_law : DL.Env → Out :=
    (mSetF 8 (m2 (m2 (mV 8) (mLst (mCons (m2 (mV 9) (mC (.int 0)) opIx) mNil)) opAdd) (mLc (mItems (m2 (mV 9) (mC (.int 1)) opIx)) (pName 18) t1_law e2_law [18]) opAdd))
def t2_law : DL.Env → Rz Bool :=
    (mB (m2 (mV 18) (mV 10) opNi))
def e3_law : DL.Env → Rz EV :=
    (mV 18)
def t3_law : DL.Env → Rz Bool :=
    (mB (m2 (mV 18) (mV 11) opNi))
def e4_law : DL.Env → Rz EV :=
    (mV 18)
def l3_law : DL.Env → Out :=
    (mIfS (mNot (mB (mFn (F__law_same 8) (mCons (mFn F__law_fate (mCons (m2 (mV 16) (mC (.int 0)) opIx) mNil) 1) (mCons (m2 (mV 16) (mC (.int 1)) opIx) mNil)) 2)))
        (mRet (mC (.bl false)))
        Out.nx)
def b_law : DL.Env → Out :=
    (mSeq (mSetF 1 (mFn F__law_draws (mCons (mFn F__law_cell (mCons (mV 0) (mCons (mC (.int 0)) mNil)) 2) (mCons (mC (.int 32)) mNil)) 2))
    (mSeq (mSetF 2 (mLst (mCons (mC (.str "S")) (mCons (mC (.str "A")) (mCons (mC (.str "Bx")) (mCons (mC (.str "Item")) mNil))))))
    (mSeq (mSetF 3 (m2 (mV 2) (mLst (mCons (mC (.str "a")) (mCons (mC (.str "zz")) mNil))) opAdd))
    (mSeq (mSetO 4 (mLst mNil))
    (mSeq (mFor (mRng1 (mCons (m2 (mC (.int 1)) (m2 (mCall (mCons (m2 (mV 1) (mC (.int 0)) opIx) mNil) gInt) (mC (.int 6)) opMod) opAdd) mNil)) (pName 5)
      l1_law)
    (mSeq (mSetF 8 (mLst mNil))
    (mSeq (mFrz 4 (mFor (mItems (mV 4)) (pName 9)
      l2_law))
    (mSeq (mSetF 10 (mFn F__law_least (mCons (mV 4) mNil) 1))
    (mSeq (mSetF 11 (mFn F__law_reached (mCons (mV 4) mNil) 1))
    (mSeq (mSetF 12 (mFn F__law_sorted (mCons (mLc (mItems (mV 8)) (pName 18) t2_law e3_law [18]) mNil) 1))
    (mSeq (mSetF 13 (mFn F__law_sorted (mCons (mLc (mItems (mV 8)) (pName 18) t3_law e4_law [18]) mNil) 1))
    (mSeq (mSetF 14 (mTup (mCons (mC (.str "made")) (mCons (m2 (m2 (mV 4) (mC (.int 0)) opIx) (mC (.int 0)) opIx) mNil))))
    (mSeq (mIfS (mB (m2 (mV 12) (mLst mNil) opNe))
      (mSetF 14 (mTup (mCons (mC (.str "barren")) (mCons (m2 (mV 12) (mC (.int 0)) opIx) mNil))))
      (mIfS (mB (m2 (mV 13) (mLst mNil) opNe))
        (mSetF 14 (mTup (mCons (mC (.str "unreached")) (mCons (m2 (mV 13) (mC (.int 0)) opIx) mNil))))
        Out.nx))
    (mSeq (mSetF 15 (mLst (mCons (mLst (mCons (mC (.str "Bx")) (mCons (mLst (mCons (mC (.str "a")) (mCons (mC (.str "Item")) mNil))) mNil))) (mCons (mLst (mCons (mC (.str "Item")) (mCons (mLst mNil) mNil))) mNil))))
    (mSeq (mFrz 4 (mFor (mItems (mLst (mCons (mTup (mCons (mV 15) (mCons (mTup (mCons (mC (.str "made")) (mCons (mC (.str "Bx")) mNil))) mNil))) (mCons (mTup (mCons (mV 4) (mCons (mV 14) mNil))) (mCons (mTup (mCons (mV 15) (mCons (mTup (mCons (mC (.str "made")) (mCons (mC (.str "Bx")) mNil))) mNil))) (mCons (mTup (mCons (mV 4) (mCons (mV 14) mNil))) mNil)))))) (pName 16)
      l3_law))
    (mRet (mC (.bl true))))))))))))))))))
def F_law : Fn := runB 19 b_law
theorem ok_law (T : Tx P K mg) {fd : FuncData} (U : FunD K "law" "law" (defArgs (top 38)) (defBody (top 38)) (defScope (top 38)) [] [] (He.ga K "law") fd) (O__law_draws : FnG P w ⟨K, CC clsL K⟩ mg base 1 "_law_draws" ["_law_cell_here", "_law_count"] F__law_draws) (O__law_cell : FnG P w ⟨K, CC clsL K⟩ mg base 1 "_law_cell" ["_law_script", "_law_at"] F__law_cell) (O__law_name : FnG P w ⟨K, CC clsL K⟩ mg base 1 "_law_name" ["_law_symbol"] F__law_name) (O__law_least : FnG P w ⟨K, CC clsL K⟩ mg base 2 "_law_least" ["_law_rules"] F__law_least) (O__law_reached : FnG P w ⟨K, CC clsL K⟩ mg base 2 "_law_reached" ["_law_rules"] F__law_reached) (O__law_sorted : FnG P w ⟨K, CC clsL K⟩ mg base 1 "_law_sorted" ["_law_row"] F__law_sorted) (O__law_same : FnG P w ⟨K, CC clsL K⟩ mg base 10 "_law_same" ["_law_told", "_law_due"] (F__law_same 8)) (O__law_fate : FnG P w ⟨K, CC clsL K⟩ mg base 8 "_law_fate" ["_law_rules"] F__law_fate) : FnOk P w K mg base (L2.CX P w) 11 (He.ga K "law") fd ["_law_script"] (spD ⟨K, CC clsL K⟩ 1 F_law) := by
  refine fn_dataD (K := ⟨K, CC clsL K⟩) (N := N_law) (b := b_law) U sc_law (by decide) (fun cdv A outer s H E hr hp tk => ?_)
  have nd := sc_law.nd
  have hu4 := hr.units
  have hu1 := room1 hr
  have hu5 := room5 hr
  exact (dss_cons (ds_setF (i := 1) (de_call O__law_draws (hr.mono (by omega)) tk (da_cons (de_call O__law_cell (hr.mono (by omega)) tk (da_cons (de_var 0) (da_cons de_int da_nil))) (da_cons de_int da_nil))) nd)
    (dss_cons (ds_setF (i := 2) (de_lst (da_cons de_str (da_cons de_str (da_cons de_str (da_cons de_str da_nil))))) nd)
    (dss_cons (ds_setF (i := 3) (de_op od_add ne_add (de_var 2) (de_lst (da_cons de_str (da_cons de_str da_nil)))) nd)
    (dss_cons (ds_setO (i := 4) (de_lst da_nil) nd)
    (dss_cons (ds_for hp (di_range1 T.n_range (da_cons (de_op od_add ne_add de_int (de_op od_mod ne_opI (de_callTy cd_int ne_g1 T.n_int (by decide +kernel) (da_cons (de_ix (de_var 1) de_int) da_nil)) de_int)) da_nil)) (dg_name nd (i := 5))
      (dss_cons (ds_setF (i := 6) (de_op od_add ne_add de_int (de_op od_mul ne_opI de_int (de_var 5))) nd)
      (dss_cons (ds_setLcF (i := 7) nd (sw_true rfl rfl rfl (by decide +kernel)) (di_range1 T.n_range (da_cons (de_op od_mod ne_opI (de_callTy cd_int ne_g1 T.n_int (by decide +kernel) (da_cons (de_ix (de_var 1) (de_op od_add ne_add (de_var 6) de_int)) da_nil)) de_int) da_nil)) (blkOk_by (own := [("_law_j", 17)]) (N := N_law) (sc := defScope s_law) (by decide +kernel)) rfl (by decide) (fun _ _ _ _ _ => (dg_name nd (i := 17))) (fun _ _ _ _ _ => dts_nil) (fun _ _ _ _ _ => (de_ix (de_var 3) (de_op od_mod ne_opI (de_callTy cd_int ne_g1 T.n_int (by decide +kernel) (da_cons (de_ix (de_var 1) (de_op od_add ne_add (de_op od_add ne_add (de_var 6) de_int) (de_var 17))) da_nil)) de_int))))
      (dss_one (ds_app 4 (de_lst (da_cons (de_ix (de_var 2) (de_op od_mod ne_opI (de_callTy cd_int ne_g1 T.n_int (by decide +kernel) (da_cons (de_ix (de_var 1) (de_var 6)) da_nil)) de_int)) (da_cons (de_var 7) da_nil))))))))
    (dss_cons (ds_setF (i := 8) (de_lst da_nil) nd)
    (dss_cons (ds_frz 4 (ds_for hp (di_seq (de_var 4)) (dg_name nd (i := 9))
      (dss_one (ds_setF (i := 8) (de_op od_add ne_add (de_op od_add ne_add (de_var 8) (de_lst (da_cons (de_ix (de_var 9) de_int) da_nil))) (de_lc nd (di_seq (de_ix (de_var 9) de_int)) (blkOk_by (own := [("_law_x", 18)]) (N := N_law) (sc := defScope s_law) (by decide +kernel)) rfl (by decide) (fun _ _ _ _ _ => (dg_name nd (i := 18))) (fun _ _ _ _ _ => (dts_one (dt_val (de_call O__law_name (hr.mono (by omega)) takes0 (da_cons (de_var 18) da_nil))))) (fun _ _ _ _ _ => (de_var 18)))) nd))))
    (dss_cons (ds_setF (i := 10) (de_call O__law_least (hr.mono (by omega)) tk (da_cons (de_var 4) da_nil)) nd)
    (dss_cons (ds_setF (i := 11) (de_call O__law_reached (hr.mono (by omega)) tk (da_cons (de_var 4) da_nil)) nd)
    (dss_cons (ds_setF (i := 12) (de_call O__law_sorted (hr.mono (by omega)) tk (da_cons (de_lc nd (di_seq (de_var 8)) (blkOk_by (own := [("_law_x", 18)]) (N := N_law) (sc := defScope s_law) (by decide +kernel)) rfl (by decide) (fun _ _ _ _ _ => (dg_name nd (i := 18))) (fun _ _ _ _ _ => (dts_one (dt_cmp (od_ni hu5) ne_ni (de_var 18) (de_var 10)))) (fun _ _ _ _ _ => (de_var 18))) da_nil)) nd)
    (dss_cons (ds_setF (i := 13) (de_call O__law_sorted (hr.mono (by omega)) tk (da_cons (de_lc nd (di_seq (de_var 8)) (blkOk_by (own := [("_law_x", 18)]) (N := N_law) (sc := defScope s_law) (by decide +kernel)) rfl (by decide) (fun _ _ _ _ _ => (dg_name nd (i := 18))) (fun _ _ _ _ _ => (dts_one (dt_cmp (od_ni hu5) ne_ni (de_var 18) (de_var 11)))) (fun _ _ _ _ _ => (de_var 18))) da_nil)) nd)
    (dss_cons (ds_setF (i := 14) (de_tup (da_cons de_str (da_cons (de_ix (de_ix (de_var 4) de_int) de_int) da_nil))) nd)
    (dss_cons (ds_if (dt_cmp (od_ne hu4) ne_ne (de_var 12) (de_lst da_nil))
      (dss_one (ds_setF (i := 14) (de_tup (da_cons de_str (da_cons (de_ix (de_var 12) de_int) da_nil))) nd))
      (dss_one (ds_if (dt_cmp (od_ne hu4) ne_ne (de_var 13) (de_lst da_nil))
        (dss_one (ds_setF (i := 14) (de_tup (da_cons de_str (da_cons (de_ix (de_var 13) de_int) da_nil))) nd))
        dss_nil)))
    (dss_cons (ds_setF (i := 15) (de_lst (da_cons (de_lst (da_cons de_str (da_cons (de_lst (da_cons de_str (da_cons de_str da_nil))) da_nil))) (da_cons (de_lst (da_cons de_str (da_cons (de_lst da_nil) da_nil))) da_nil))) nd)
    (dss_cons (ds_frz 4 (ds_for hp (di_seq (de_lst (da_cons (de_tup (da_cons (de_var 15) (da_cons (de_tup (da_cons de_str (da_cons de_str da_nil))) da_nil))) (da_cons (de_tup (da_cons (de_var 4) (da_cons (de_var 14) da_nil))) (da_cons (de_tup (da_cons (de_var 15) (da_cons (de_tup (da_cons de_str (da_cons de_str da_nil))) da_nil))) (da_cons (de_tup (da_cons (de_var 4) (da_cons (de_var 14) da_nil))) da_nil)))))) (dg_name nd (i := 16))
      (dss_one (ds_if (dt_not (dt_val (de_call O__law_same (hr.mono (by omega)) tk (da_cons (de_call O__law_fate (hr.mono (by omega)) tk (da_cons (de_ix (de_var 16) de_int) da_nil)) (da_cons (de_ix (de_var 16) de_int) da_nil)))))
        (dss_one (ds_ret de_bl))
        dss_nil))))
    (dss_one (ds_ret de_bl)))))))))))))))))
theorem all_law (T : Tx P K mg) {fd : FuncData} (U : FunD K "law" "law" (defArgs (top 38)) (defBody (top 38)) (defScope (top 38)) [] [] (He.ga K "law") fd) : FnOk P w K mg base (L2.CX P w) 11 (He.ga K "law") fd ["_law_script"] (spD ⟨K, CC clsL K⟩ 1 F_law) := by
  have O__law_draws : FnG P w ⟨K, CC clsL K⟩ mg base 1 "_law_draws" ["_law_cell_here", "_law_count"] F__law_draws := ok__law_draws T
  have O__law_name : FnG P w ⟨K, CC clsL K⟩ mg base 1 "_law_name" ["_law_symbol"] F__law_name := ok__law_name T
  have O__law_less : FnG P w ⟨K, CC clsL K⟩ mg base 1 "_law_less" ["_law_one", "_law_other"] F__law_less := ok__law_less T
  have O__law_least : FnG P w ⟨K, CC clsL K⟩ mg base 2 "_law_least" ["_law_rules"] F__law_least := ok__law_least T O__law_name O__law_less
  have O__law_reached : FnG P w ⟨K, CC clsL K⟩ mg base 2 "_law_reached" ["_law_rules"] F__law_reached := ok__law_reached T O__law_name
  have O__law_sorted : FnG P w ⟨K, CC clsL K⟩ mg base 1 "_law_sorted" ["_law_row"] F__law_sorted := ok__law_sorted T
  have O__law_cell : FnG P w ⟨K, CC clsL K⟩ mg base 1 "_law_cell" ["_law_script", "_law_at"] F__law_cell := ok__law_cell T
  have O__law_same : FnG P w ⟨K, CC clsL K⟩ mg base 10 "_law_same" ["_law_told", "_law_due"] (F__law_same 8) := ok__law_same T
  have O_exc_RuleError : ExG P w ⟨K, CC clsL K⟩ mg base 1 "RuleError" ["line"] := ok_exc_RuleError T
  have O_order : FnG P w ⟨K, CC clsL K⟩ mg base 1 "order" ["text"] F_order := ok_order T
  have O_is_word : FnG P w ⟨K, CC clsL K⟩ mg base 1 "is_word" ["word"] F_is_word := ok_is_word T
  have O_is_sign : FnG P w ⟨K, CC clsL K⟩ mg base 2 "is_sign" ["word"] F_is_sign := ok_is_sign T O_is_word
  have O_least_words : FnG P w ⟨K, CC clsL K⟩ mg base 3 "least_words" ["rules"] F_least_words := ok_least_words T O_is_sign O_order
  have O_is_name : FnG P w ⟨K, CC clsL K⟩ mg base 2 "is_name" ["word"] F_is_name := ok_is_name T O_is_word
  have O_reached_names : FnG P w ⟨K, CC clsL K⟩ mg base 3 "reached_names" ["rules", "start"] F_reached_names := ok_reached_names T O_is_name
  have O_leading : FnG P w ⟨K, CC clsL K⟩ mg base 3 "leading" ["symbols", "firsts", "least"] F_leading := ok_leading T O_is_sign
  have O_first_signs : FnG P w ⟨K, CC clsL K⟩ mg base 4 "first_signs" ["rules", "least"] F_first_signs := ok_first_signs T O_leading
  have O_exc_TooLarge : ExG P w ⟨K, CC clsL K⟩ mg base 1 "TooLarge" ["what"] := ok_exc_TooLarge T
  have O_exc_Barren : ExG P w ⟨K, CC clsL K⟩ mg base 1 "Barren" ["name"] := ok_exc_Barren T
  have O_exc_Unreached : ExG P w ⟨K, CC clsL K⟩ mg base 1 "Unreached" ["name"] := ok_exc_Unreached T
  have O_is_rule : FnG P w ⟨K, CC clsL K⟩ mg base 3 "is_rule" ["name", "symbols", "most"] F_is_rule := ok_is_rule T O_is_name O_is_sign
  have O_Grammar_init : InG P w ⟨K, CC clsL K⟩ mg base 5 "Grammar" 1 I_Grammar_init := ok_Grammar_init T O_exc_RuleError O_is_rule O_is_name O_is_sign O_exc_TooLarge O_least_words O_exc_Barren O_reached_names O_exc_Unreached O_first_signs
  have O_parse_rule : FnG P w ⟨K, CC clsL K⟩ mg base 4 "parse_rule" ["line", "most"] F_parse_rule := ok_parse_rule T O_is_rule
  have O_Grammar_read : CmG P w ⟨K, CC clsL K⟩ mg base 7 "Grammar" "read" 1 false F_Grammar_read := ok_Grammar_read T O_parse_rule O_exc_RuleError O_Grammar_init
  have O__law_lines : FnG P w ⟨K, CC clsL K⟩ mg base 1 "_law_lines" ["_law_rules"] F__law_lines := ok__law_lines T
  have O__law_fate : FnG P w ⟨K, CC clsL K⟩ mg base 8 "_law_fate" ["_law_rules"] F__law_fate := ok__law_fate T O_Grammar_read O__law_lines
  exact ok_law T U O__law_draws O__law_cell O__law_name O__law_least O__law_reached O__law_sorted O__law_same O__law_fate
end
end LW.K07
namespace LW.K07
open PySem L2 DL
def sym6 : List Str := ["S", "A", "Bx", "Item", "a", "zz"]
def nm4 : List Str := ["S", "A", "Bx", "Item"]
theorem sym_ok : ∀ x ∈ sym6, PyData.strOk x = true ∧ x.cps.toList.length ≤ 16777216 ∧ (sgB x = true ∨ nmB x = true) := by decide +kernel
theorem nm_nm : ∀ x ∈ nm4, nmB x = true ∧ x ∈ sym6 := by decide +kernel
theorem nm_of : ∀ x ∈ sym6, nmB x = true → x ∈ nm4 := by decide +kernel
theorem sg_of : ∀ x ∈ sym6, sgB x = true → x ∈ [("a" : Str), "zz"] := by decide +kernel
structure Rs (rs : List Rl) : Prop where
  ne : rs ≠ []
  n6 : rs.length ≤ 6
  nm : ∀ r ∈ rs, r.1 ∈ nm4
  sy : ∀ r ∈ rs, ∀ x ∈ r.2, x ∈ sym6
  len : ∀ r ∈ rs, r.2.length ≤ 3
theorem okW_of {x : Str} (h : x ∈ sym6) : okW x := ⟨(sym_ok x h).1, (sym_ok x h).2.1⟩
theorem Rs.rule {rs : List Rl} (h : Rs rs) : ∀ r ∈ rs, isRule r = true := fun r hr => by
  unfold isRule
  simp only [Bool.and_eq_true, decide_eq_true_eq, List.all_eq_true, Bool.or_eq_true]
  exact ⟨⟨(nm_nm _ (h.nm r hr)).1, by have := h.len r hr; omega⟩, fun x hx => (sym_ok x (h.sy r hr x hx)).2.2.elim .inr .inl⟩
theorem Rs.okr {rs : List Rl} (h : Rs rs) : ∀ r ∈ rs, OkR r := fun r hr => ⟨okW_of (nm_nm _ (h.nm r hr)).2, fun x hx => okW_of (h.sy r hr x hx), by have := h.len r hr; omega⟩
theorem Rs.words {rs : List Rl} (h : Rs rs) : ∀ x ∈ wordsR rs, x ∈ sym6 := fun x hx => by
  rcases List.mem_append.mp hx with hx | hx
  · obtain ⟨r, hr, rfl⟩ := List.mem_map.mp hx; exact (nm_nm _ (h.nm r hr)).2
  · obtain ⟨r, hr, hx⟩ := List.mem_flatMap.mp hx; exact h.sy r hr x hx
theorem asc_nodup {l : List Str} (h : DS.Asc l) : l.Nodup := List.Pairwise.imp (fun {a b} hab e => by subst e; exact absurd hab (List.lt_irrefl _)) h
theorem Rs.names {rs : List Rl} (h : Rs rs) : ∀ x ∈ namesG rs, x ∈ nm4 := fun x hx => by
  have := mem_names.mp hx
  exact nm_of x (h.words x this.1) this.2
theorem Rs.gok {rs : List Rl} (h : Rs rs) : Gok rs := by
  refine ⟨h.ne, h.okr, h.rule, by have := h.n6; omega, ?_, ?_⟩
  · have := nodup_len (asc_nodup (DS.asc_sortU ((wordsR rs).filter nmB))) (m := nm4) h.names
    exact Nat.le_trans this (by decide)
  · have := nodup_len (asc_nodup (DS.asc_sortU ((wordsR rs).filter sgB))) (m := [("a" : Str), "zz"]) fun x hx => by
      rw [DS.mem_sortU, List.mem_filter] at hx
      exact sg_of x (h.words x hx.1) hx.2
    exact Nat.le_trans this (by decide)
theorem Rs.small {rs : List Rl} (h : Rs rs) : (namesG rs).find? (fun x => decide (99 < ((getA (least rs) x).getD []).length)) = none := by
  rw [List.find?_eq_none]
  intro x _
  have hl := LenOk.iter (rs := rs) (b := 3) (by decide) h.len rs.length
  cases hg : getA (least rs) x with
  | none => simp
  | some w =>
    have h1 := hl.get (by decide) hg
    have h2 := hl.card (NL := nm4) h.nm
    have h3 : 3 ^ (iterF rs rs.length).length ≤ 3 ^ 4 := Nat.pow_le_pow_right (by decide) h2
    have h4 : w.length ≤ 81 := Nat.le_trans h1 h3
    show ¬ (decide (99 < w.length) = true)
    exact fun z => absurd (of_decide_eq_true z) (by omega)
def fateOf (rs : List Rl) : Str × Str := match (namesG rs).find? (fun x => (getA (least rs) x).isNone) with
  | some x => ("barren", x)
  | none => match (namesG rs).find? (fun x => !decide (x ∈ reach rs (startG rs))) with
    | some x => ("unreached", x)
    | none => ("made", startG rs)
abbrev fateD (p : Str × Str) : D := .tup [.str p.1, .str p.2]
theorem gRes_of {rs : List Rl} (h : Rs rs) : gRes rs = match (namesG rs).find? (fun x => (getA (least rs) x).isNone) with
  | some x => .exc (barE x)
  | none => match (namesG rs).find? (fun x => !decide (x ∈ reach rs (startG rs))) with
    | some x => .exc (unrE x)
    | none => .ok (gFs rs) := by
  unfold gRes
  rw [h.small]
  all_goals (cases (namesG rs).find? (fun x => (getA (least rs) x).isNone) <;> first | rfl | (cases (namesG rs).find? (fun x => !decide (x ∈ reach rs (startG rs))) <;> rfl))
theorem t1 : tabS [("AwaitError", false), ("LineError", false), ("RuleError", false), ("TooLarge", false), ("NameFault", true), ("Barren", true), ("Unreached", true), ("SymbolError", false)] "Barren" = some true := by decide +kernel
theorem t1u : tabS [("AwaitError", false), ("LineError", false), ("RuleError", false), ("TooLarge", false), ("NameFault", true), ("Barren", true), ("Unreached", true), ("SymbolError", false)] "Unreached" = some true := by decide +kernel
theorem t2 : tabS [("AwaitError", false), ("LineError", false), ("RuleError", false), ("TooLarge", false), ("NameFault", false), ("Barren", true), ("Unreached", false), ("SymbolError", false)] "Barren" = some true := by decide +kernel
theorem t2u : tabS [("AwaitError", false), ("LineError", false), ("RuleError", false), ("TooLarge", false), ("NameFault", false), ("Barren", true), ("Unreached", false), ("SymbolError", false)] "Unreached" = some false := by decide +kernel
theorem t3 : tabS [("AwaitError", false), ("LineError", false), ("RuleError", false), ("TooLarge", false), ("NameFault", false), ("Barren", false), ("Unreached", true), ("SymbolError", false)] "Barren" = some false := by decide +kernel
theorem t3u : tabS [("AwaitError", false), ("LineError", false), ("RuleError", false), ("TooLarge", false), ("NameFault", false), ("Barren", false), ("Unreached", true), ("SymbolError", false)] "Unreached" = some true := by decide +kernel
theorem t4 : tabS [("AwaitError", false), ("LineError", true), ("RuleError", true), ("TooLarge", false), ("NameFault", false), ("Barren", false), ("Unreached", false), ("SymbolError", false)] "Barren" = some false := by decide +kernel
theorem t4u : tabS [("AwaitError", false), ("LineError", true), ("RuleError", true), ("TooLarge", false), ("NameFault", false), ("Barren", false), ("Unreached", false), ("SymbolError", false)] "Unreached" = some false := by decide +kernel
theorem t5 : tabS [("AwaitError", false), ("LineError", false), ("RuleError", false), ("TooLarge", true), ("NameFault", false), ("Barren", false), ("Unreached", false), ("SymbolError", false)] "Barren" = some false := by decide +kernel
theorem t5u : tabS [("AwaitError", false), ("LineError", false), ("RuleError", false), ("TooLarge", true), ("NameFault", false), ("Barren", false), ("Unreached", false), ("SymbolError", false)] "Unreached" = some false := by decide +kernel
theorem t6 : tabS [("AwaitError", true), ("LineError", true), ("RuleError", true), ("TooLarge", true), ("NameFault", true), ("Barren", true), ("Unreached", true), ("SymbolError", true)] "Barren" = some true := by decide +kernel
theorem t6u : tabS [("AwaitError", true), ("LineError", true), ("RuleError", true), ("TooLarge", true), ("NameFault", true), ("Barren", true), ("Unreached", true), ("SymbolError", true)] "Unreached" = some true := by decide +kernel
theorem lk_start (rs : List Rl) : (gFs rs).lookup ("start" : Str) = some (.str (startG rs)) := by
  simp [List.lookup_cons, kb_start_rules, kb_start_names, kb_start_signs]
theorem ev_fate {rs : List Rl} (h : Rs rs) : F__law_fate [.lst (rs.map rL)] = .ok (.fz (fateD (fateOf rs))) := by
  have hk : ∀ r ∈ rs, Rok r := fun r hr => ⟨h.rule r hr, h.okr r hr⟩
  have hl := appF_fz (F := F__law_lines) (evs := [.fz (.lst (rs.map rL))]) (ev_law_lines (by have := h.n6; omega) hk) rfl
  have hr := ap_read h.gok
  have h2 : (2 : Nat) ≤ sizeLine := size_big (by decide)
  unfold F__law_fate runB b__law_fate
  unfold gMade at hr
  rw [gRes_of h] at hr
  unfold fateOf
  cases hb : (namesG rs).find? (fun x => (getA (least rs) x).isNone) with
  | some x =>
    rw [hb] at hr
    dsimp only at hr
    simp [hl, hr, mTry, t1, mIsEC, mXfC, exAt, inCs, t2, t3, t4, t5, t6, fin, allFz, h2]
  | none =>
    rw [hb] at hr
    dsimp only at hr
    cases hu : (namesG rs).find? (fun x => !decide (x ∈ reach rs (startG rs))) with
    | some x =>
      rw [hu] at hr
      dsimp only at hr
      simp [hl, hr, mTry, t1u, mIsEC, mXfC, exAt, inCs, t2u, t3u, t4u, t5u, t6u, fin, allFz, h2]
    | none =>
      rw [hu] at hr
      dsimp only at hr
      have hs := lk_start rs
      generalize gFs rs = fs at hr hs
      simp [hl, hr, mTry, fldD, hs, allFz, h2]
theorem ddup_pre : ∀ (l acc : List Str), ∃ t, l.foldl (fun acc x => if x ∈ acc then acc else acc ++ [x]) acc = acc ++ t
  | [], acc => ⟨[], by simp⟩
  | x :: l, acc => by
    rw [List.foldl_cons]
    by_cases h : x ∈ acc
    · rw [if_pos h]; exact ddup_pre l acc
    · rw [if_neg h]
      obtain ⟨t, e⟩ := ddup_pre l (acc ++ [x])
      exact ⟨[x] ++ t, by rw [e, List.append_assoc]⟩
theorem ddup_head (l : List Str) : (ddup l).head? = l.head? := by
  cases l with
  | nil => rfl
  | cons x l =>
    unfold ddup
    rw [List.foldl_cons, if_neg (by simp)]
    obtain ⟨t, e⟩ := ddup_pre l ([] ++ [x])
    rw [e]; rfl
theorem first_of (l : List Str) (P : Str → Bool) : (isort strLt (l.filter P)).head? = (DS.sortU l).find? P := by
  rw [← ddup_head, ddup_isort, ← List.head?_filter]
  congr 1
  refine (DS.sortU_of (List.Pairwise.filter P (DS.asc_sortU l)) fun x => ?_).symm
  rw [List.mem_filter, List.mem_filter, DS.mem_sortU]
def usedR (rs : List Rl) : List Str := rs.flatMap fun r => r.1 :: r.2.filter nmB
theorem sort_used {rs : List Rl} (h : Rs rs) : DS.sortU (usedR rs) = namesG rs := by
  refine DS.sortU_of (DS.asc_sortU _) fun x => ?_
  rw [DS.mem_sortU, List.mem_filter]
  unfold usedR wordsR
  rw [List.mem_flatMap, List.mem_append, List.mem_map]
  constructor
  · rintro ⟨r, hr, hx⟩
    rcases List.mem_cons.mp hx with rfl | hx
    · exact ⟨.inl ⟨r, hr, rfl⟩, (nm_nm _ (h.nm r hr)).1⟩
    · rw [List.mem_filter] at hx
      exact ⟨.inr (allR_in r hr x hx.1), hx.2⟩
  · rintro ⟨⟨r, hr, rfl⟩ | hx, hn⟩
    · exact ⟨r, hr, List.mem_cons_self⟩
    · obtain ⟨r, hr, hx⟩ := List.mem_flatMap.mp hx
      exact ⟨r, hr, .tail _ (List.mem_filter.mpr ⟨hx, hn⟩)⟩
theorem used_len {rs : List Rl} (h : Rs rs) : (usedR rs).length ≤ 24 := by
  have h6 := h.n6
  have key : ∀ l : List Rl, (∀ r ∈ l, r.2.length ≤ 3) → (usedR l).length ≤ 4 * l.length := by
    intro l
    induction l with
    | nil => intro _; simp [usedR]
    | cons r l ih =>
      intro h
      have h1 := h r List.mem_cons_self
      have h2 := ih fun q hq => h q (.tail _ hq)
      have h3 := List.length_filter_le nmB r.2
      unfold usedR at h2 ⊢
      rw [List.flatMap_cons, List.length_append, List.length_cons, List.length_cons]
      omega
  have := key rs h.len
  omega
theorem used_ok {rs : List Rl} (h : Rs rs) : ∀ x ∈ usedR rs, x ∈ sym6 := fun x hx => by
  obtain ⟨r, hr, hx⟩ := List.mem_flatMap.mp hx
  rcases List.mem_cons.mp hx with rfl | hx
  · exact (nm_nm _ (h.nm r hr)).2
  · exact h.sy r hr x (List.mem_filter.mp hx).1
theorem eq_nil {l : List Str} (hl : l.length ≤ 1000) (h : ∀ x ∈ l, PyData.strOk x = true) : eqD (.lst (stD l)) (.lst []) = some (decide (l = [])) := by
  have s1 : SeqAt.shaped (toPy (.lst (stD l))) = true := (PL_lstrs (n := 2) (by omega) h).shaped (by decide)
  have s2 : SeqAt.shaped (toPy (.lst [])) = true := by decide
  cases l with
  | nil =>
    have := eqD_refl (n := 2) (d := .lst []) ⟨by simp, by simp⟩ (by decide)
    simpa using this
  | cons x l =>
    have : eqD (.lst (stD (x :: l))) (.lst []) = some (PyData.eqv (toPy (.lst (stD (x :: l)))) (toPy (.lst []))) := by
      show (if SeqAt.shaped (toPy (.lst (stD (x :: l)))) = true ∧ SeqAt.shaped (toPy (.lst [])) = true then some _ else none) = _
      rw [if_pos ⟨s1, s2⟩]
    rw [this]; rfl
theorem same_fate {rs : List Rl} (h : Rs rs) : appF (F__law_same 8) [.fz (fateD (fateOf rs)), .fz (fateD (fateOf rs))] = .ok (.fz (.bl true)) := by
  have hs : PyData.strOk (fateOf rs).1 = true ∧ PyData.strOk (fateOf rs).2 = true := by
    have h1 : PyData.strOk "barren" = true := by decide +kernel
    have h2 : PyData.strOk "unreached" = true := by decide +kernel
    have h3 : PyData.strOk "made" = true := by decide +kernel
    have hn : ∀ x ∈ namesG rs, PyData.strOk x = true := fun x hx => (sym_ok x (nm_nm x (h.names x hx)).2).1
    unfold fateOf
    split
    · rename_i x hx; exact ⟨h1, hn x (List.mem_of_find?_eq_some hx)⟩
    · split
      · rename_i x hx; exact ⟨h2, hn x (List.mem_of_find?_eq_some hx)⟩
      · refine ⟨h3, ?_⟩
        unfold startG
        cases hrs : rs with
        | nil => exact absurd hrs h.ne
        | cons r l => exact (sym_ok _ (nm_nm _ (h.nm r (by rw [hrs]; exact List.mem_cons_self))).2).1
  refine appF_fz (evs := [.fz (fateD (fateOf rs)), .fz (fateD (fateOf rs))]) (same_refl 8 _ ⟨by simp, fun d hd => ?_⟩ (by decide)) rfl
  simp only [List.mem_cons, List.not_mem_nil, or_false] at hd
  rcases hd with rfl | rfl
  · exact hs.1
  · exact hs.2
abbrev E (ns : List Int) (v1 v2 v3 v4 v5 v6 v7 v8 v9 v10 v11 v12 v13 v14 v15 v16 v17 v18 : SL) : DL.Env := [.val (.scr ns), v1, v2, v3, v4, v5, v6, v7, v8, v9, v10, v11, v12, v13, v14, v15, v16, v17, v18]
def rAt (ds : List Nat) (k : Nat) : Rl := (nm4.getD (ds.getD (2 + 5 * k) 0 % 4) "", (List.range (ds.getD (2 + 5 * k + 1) 0 % 4)).map fun j => sym6.getD (ds.getD (2 + 5 * k + 2 + j) 0 % 6) "")
theorem getD_mem {l : List Str} {n : Nat} (h : n < l.length) : l.getD n "" ∈ l := by
  rw [List.getD_eq_getElem?_getD, List.getElem?_eq_getElem h]; exact List.getElem_mem h
theorem rAt_ok (ds : List Nat) (k : Nat) : (rAt ds k).1 ∈ nm4 ∧ (∀ x ∈ (rAt ds k).2, x ∈ sym6) ∧ (rAt ds k).2.length ≤ 3 := by
  refine ⟨getD_mem (Nat.mod_lt _ (by decide)), fun x hx => ?_, ?_⟩
  · obtain ⟨j, _, rfl⟩ := List.mem_map.mp hx
    exact getD_mem (Nat.mod_lt _ (by decide))
  · show ((List.range _).map _).length ≤ 3
    rw [List.length_map, List.length_range]
    have := Nat.mod_lt (ds.getD (2 + 5 * k + 1) 0) (show 0 < 4 by decide)
    omega
theorem app_ok {i : Nat} {m : DL.Env → Rz EV} {env : DL.Env} {a : EV} {d : D} {rules : List D} (h : env.getD i .no = .own (.lst rules)) (hm : m env = .ok a) (ha : a.fr = .fz d) (hl : rules.length < sizeLine) : mApp i m env = .nx (env.set i (.own (.lst (rules ++ [d])))) := by
  unfold mApp
  rw [h]
  dsimp only
  rw [hm]
  dsimp only
  rw [ha]
  dsimp only
  rw [if_pos hl]
theorem step1 {ns : List Int} {ds : List Nat} (hd : ds.length = 32) {rules : List D} (hl : rules.length ≤ 10) {k : Nat} (hk : k < 6) (v6 v7 : SL) : ∃ v6' v7',
    l1_law (E ns (.val (.lst (natD ds))) (.val (.lst (stD nm4))) (.val (.lst (stD sym6))) (.own (.lst rules)) (.val (.int k)) v6 v7 .no .no .no .no .no .no .no .no .no .no .no) =
      .nx (E ns (.val (.lst (natD ds))) (.val (.lst (stD nm4))) (.val (.lst (stD sym6))) (.own (.lst (rules ++ [rL (rAt ds k)]))) (.val (.int k)) v6' v7' .no .no .no .no .no .no .no .no .no .no .no) := by
  have hm := mul_small (i := 5) (j := (k : Int)) (by omega)
  have i0 := at_nat ds (2 + 5 * (k : Int)) (2 + 5 * k) (by omega) (by omega)
  have i1 := at_nat ds (2 + 5 * (k : Int) + 1) (2 + 5 * k + 1) (by omega) (by omega)
  have g0 : ds.getD (2 + 5 * k) 0 = ds[2 + 5 * k] := by rw [List.getD_eq_getElem?_getD, List.getElem?_eq_getElem (by omega)]; rfl
  have g1 : ds.getD (2 + 5 * k + 1) 0 = ds[2 + 5 * k + 1] := by rw [List.getD_eq_getElem?_getD, List.getElem?_eq_getElem (by omega)]; rfl
  refine ⟨.val (.int (2 + 5 * (k : Int))), .val (.lst (stD (rAt ds k).2)), ?_⟩
  unfold l1_law
  rw [seq_ok (setF_ok (a := .fz (.int (2 + 5 * (k : Int)))) (d := .int (2 + 5 * (k : Int))) (by simp [hm]) rfl)]
  simp only [List.set_cons_zero, List.set_cons_succ]
  have hlc : mLc (mRng1 (mCons (m2 (mCall (mCons (m2 (mV 1) (m2 (mV 6) (mC (.int 1)) opAdd) opIx) mNil) gInt) (mC (.int 4)) opMod) mNil)) (pName 17) mYes e1_law [17] (E ns (.val (.lst (natD ds))) (.val (.lst (stD nm4))) (.val (.lst (stD sym6))) (.own (.lst rules)) (.val (.int k)) (.val (.int (2 + 5 * (k : Int)))) v7 .no .no .no .no .no .no .no .no .no .no .no) = .ok (.ow true (.lst (stD (rAt ds k).2))) := by
    rw [show stD (rAt ds k).2 = (List.range (ds.getD (2 + 5 * k + 1) 0 % 4)).map fun j => D.str (sym6.getD (ds.getD (2 + 5 * k + 2 + j) 0 % 6) "") from List.map_map]
    refine mLc_all (i := 17) (rng1_ok (n := ds.getD (2 + 5 * k + 1) 0 % 4) (by rw [g1]; simp [i1]) (by omega)) (fun j hj => ?_) (size_big (by rw [List.length_range]; omega))
    have hj := List.mem_range.mp hj
    have hi : 2 + 5 * k + 2 + j < ds.length := by omega
    have hq : ds[2 + 5 * k + 2 + j] % 6 < sym6.length := Nat.mod_lt _ (by decide)
    have i2 := at_nat ds (2 + 5 * (k : Int) + 2 + (j : Int)) (2 + 5 * k + 2 + j) (by omega) hi
    have i3 := atI_stD sym6 (((ds[2 + 5 * k + 2 + j] : Nat) : Int) % 6) (ds[2 + 5 * k + 2 + j] % 6) (by omega) hq
    refine ⟨.fz (.str sym6[ds[2 + 5 * k + 2 + j] % 6]), ?_, ?_⟩
    · unfold e1_law
      simp [i2, i3]
    · rw [List.getD_eq_getElem?_getD, List.getD_eq_getElem?_getD, List.getElem?_eq_getElem hi, Option.getD_some, List.getElem?_eq_getElem hq]
      rfl
  rw [seq_ok (setF_ok (d := .lst (stD (rAt ds k).2)) hlc rfl)]
  simp only [List.set_cons_zero, List.set_cons_succ]
  have hq : ds[2 + 5 * k] % 4 < nm4.length := Nat.mod_lt _ (by decide)
  have i4 := atI_stD nm4 (((ds[2 + 5 * k] : Nat) : Int) % 4) (ds[2 + 5 * k] % 4) (by omega) hq
  have hn : (rAt ds k).1 = nm4[ds[2 + 5 * k] % 4] := by
    show nm4.getD (ds.getD (2 + 5 * k) 0 % 4) "" = _
    rw [g0, List.getD_eq_getElem?_getD, List.getElem?_eq_getElem hq]; rfl
  have hz : rules.length < sizeLine := Nat.lt_of_lt_of_le (by omega : rules.length < 100) (size_big (by decide))
  have h2 : (2 : Nat) ≤ sizeLine := size_big (by decide)
  have hv : (mLst (mCons (m2 (mV 2) (m2 (mCall (mCons (m2 (mV 1) (mV 6) opIx) mNil) gInt) (mC (.int 4)) opMod) opIx) (mCons (mV 7) mNil))) (E ns (.val (.lst (natD ds))) (.val (.lst (stD nm4))) (.val (.lst (stD sym6))) (.own (.lst rules)) (.val (.int k)) (.val (.int (2 + 5 * (k : Int)))) (.val (.lst (stD (rAt ds k).2))) .no .no .no .no .no .no .no .no .no .no .no) = .ok (.ow true (.lst [.str (rAt ds k).1, .lst (stD (rAt ds k).2)])) := by
    rw [hn]
    generalize stD (rAt ds k).2 = rgt
    simp [i0, i4, allFz, h2]
  rw [app_ok (rules := rules) (d := rL (rAt ds k)) rfl hv rfl hz]
  rfl
theorem step2 {ns : List Int} {v1 v2 v3 v5 v6 v7 : SL} {u : List Str} {r : Rl} (rl : SL) (hok : OkR r) (hs : ∀ x ∈ r.2, symB x) (hl : u.length ≤ 1000) (h3 : r.2.length ≤ 3) :
    l2_law (E ns v1 v2 v3 rl v5 v6 v7 (.val (.lst (stD u))) (.val (rL r)) .no .no .no .no .no .no .no .no .no) = .nx (E ns v1 v2 v3 rl v5 v6 v7 (.val (.lst (stD (u ++ (r.1 :: r.2.filter nmB))))) (.val (rL r)) .no .no .no .no .no .no .no .no .no) := by
  have a0 : ixD (.fz (rL r)) (.fz (.int 0)) = some (.str r.1) := rfl
  have a1 : ixD (.fz (rL r)) (.fz (.int 1)) = some (.lst (stD r.2)) := rfl
  have hf := List.length_filter_le nmB r.2
  have hlc : mLc (mItems (m2 (mV 9) (mC (.int 1)) opIx)) (pName 18) t1_law e2_law [18] (E ns v1 v2 v3 rl v5 v6 v7 (.val (.lst (stD u))) (.val (rL r)) .no .no .no .no .no .no .no .no .no) = .ok (.ow true (.lst (stD (r.2.filter nmB)))) :=
    mLc_if (i := 18) (en := D.str) (f := D.str) (k := nmB) (xs := r.2) (by simp [a1]) (fun x hx => by
      unfold t1_law
      have := ap_law_name (hok.sy x hx) (hs x hx)
      rw [nm_sg (hs x hx)] at this
      simp [this]) (fun x hx _ => ⟨.fz (.str x), by unfold e2_law; simp, rfl⟩) (size_big (by omega))
  have z1 : u.length + 1 ≤ sizeLine := size_big (by omega)
  have z2 : u.length + 1 + (r.2.filter nmB).length ≤ sizeLine := size_big (by omega)
  have hv : (m2 (m2 (mV 8) (mLst (mCons (m2 (mV 9) (mC (.int 0)) opIx) mNil)) opAdd) (mLc (mItems (m2 (mV 9) (mC (.int 1)) opIx)) (pName 18) t1_law e2_law [18]) opAdd) (E ns v1 v2 v3 rl v5 v6 v7 (.val (.lst (stD u))) (.val (rL r)) .no .no .no .no .no .no .no .no .no) = .ok (.ow true (.lst (stD (u ++ (r.1 :: r.2.filter nmB))))) := by
    have h1 : (m2 (mV 8) (mLst (mCons (m2 (mV 9) (mC (.int 0)) opIx) mNil)) opAdd) (E ns v1 v2 v3 rl v5 v6 v7 (.val (.lst (stD u))) (.val (rL r)) .no .no .no .no .no .no .no .no .no) = .ok (.ow true (.lst (stD u ++ [.str r.1]))) := by
      simp [a0, allFz, size1, z1]
    rw [m2_e, h1, hlc]
    simp only [Rz.ok_bind, opAdd_oo]
    rw [if_pos (by simp only [List.length_append, List.length_map, List.length_cons, List.length_nil]; exact z2)]
    unfold stD
    rw [List.map_append, List.map_cons, List.append_assoc]
    rfl
  unfold l2_law
  rw [setF_ok hv rfl]
  rfl
def goodR : List Rl := [("Bx", ["a", "Item"]), ("Item", [])]
theorem good_rs : Rs goodR := ⟨by decide, by decide, by decide +kernel, by decide +kernel, by decide⟩
theorem good_fate : fateOf goodR = (("made" : Str), ("Bx" : Str)) := by decide +kernel
theorem step3 {ns : List Int} {v1 v2 v3 v4 v5 v6 v7 v8 v9 v10 v11 v12 v13 v14 v15 : SL} {rs : List Rl} (h : Rs rs) :
    l3_law (E ns v1 v2 v3 v4 v5 v6 v7 v8 v9 v10 v11 v12 v13 v14 v15 (.val (.tup [.lst (rs.map rL), fateD (fateOf rs)])) .no .no) = .nx (E ns v1 v2 v3 v4 v5 v6 v7 v8 v9 v10 v11 v12 v13 v14 v15 (.val (.tup [.lst (rs.map rL), fateD (fateOf rs)])) .no .no) := by
  have a0 : ∀ a b : D, atI [a, b] 0 = some a := fun a b => atI_nat (j := 0) rfl
  have a1 : ∀ a b : D, atI [a, b] 1 = some b := fun a b => atI_nat (j := 1) rfl
  have hf := appF_fz (F := F__law_fate) (evs := [.fz (.lst (rs.map rL))]) (ev_fate h) rfl
  have hs := same_fate h
  unfold l3_law
  refine ifF ?_
  simp [a0, a1, hf, hs]
theorem used_take {rs : List Rl} {i : Nat} {r : Rl} (h : rs[i]? = some r) : usedR (rs.take (i + 1)) = usedR (rs.take i) ++ (r.1 :: r.2.filter nmB) := by
  unfold usedR
  rw [List.take_succ, h, List.flatMap_append]
  simp
theorem used_take_len {rs : List Rl} (h : Rs rs) (i : Nat) : (usedR (rs.take i)).length ≤ 24 := by
  have h6 := h.n6
  have key : ∀ l : List Rl, (∀ r ∈ l, r.2.length ≤ 3) → (usedR l).length ≤ 4 * l.length := by
    intro l
    induction l with
    | nil => intro _; simp [usedR]
    | cons r l ih =>
      intro h
      have h1 := h r List.mem_cons_self
      have h2 := ih fun q hq => h q (.tail _ hq)
      have h3 := List.length_filter_le nmB r.2
      unfold usedR at h2 ⊢
      rw [List.flatMap_cons, List.length_append, List.length_cons, List.length_cons]
      omega
  have h1 := key (rs.take i) fun r hr => h.len r (List.mem_of_mem_take hr)
  have h2 : (rs.take i).length ≤ rs.length := by rw [List.length_take]; omega
  omega
theorem ap_sorted (l : List Str) (hl : l.length ≤ 1000) : appF F__law_sorted [.fz (.lst (stD l))] = .ok (.ow true (.lst (stD (isort strLt l)))) :=
  appF_ow1 (ev_sorted (en := D.str) (lt := strLt) (fun a b => rfl) l (by omega) (.lst (stD l)) rfl rfl)
theorem step4 {ns : List Int} {v1 v2 v3 v4 v5 v6 v7 v8 v9 v10 v11 v15 v16 : SL} {rs : List Rl} (h : Rs rs) (bl lo : List Str) (hb : bl.head? = (namesG rs).find? (fun x => (getA (least rs) x).isNone)) (hlo : lo.head? = (namesG rs).find? (fun x => !decide (x ∈ reach rs (startG rs))))
    (b1 : bl.length ≤ 1000 ∧ ∀ x ∈ bl, PyData.strOk x = true) (l1 : lo.length ≤ 1000 ∧ ∀ x ∈ lo, PyData.strOk x = true) :
    (mIfS (mB (m2 (mV 12) (mLst mNil) opNe))
      (mSetF 14 (mTup (mCons (mC (.str "barren")) (mCons (m2 (mV 12) (mC (.int 0)) opIx) mNil))))
      (mIfS (mB (m2 (mV 13) (mLst mNil) opNe))
        (mSetF 14 (mTup (mCons (mC (.str "unreached")) (mCons (m2 (mV 13) (mC (.int 0)) opIx) mNil))))
        Out.nx)) (E ns v1 v2 v3 v4 v5 v6 v7 v8 v9 v10 v11 (.val (.lst (stD bl))) (.val (.lst (stD lo))) (.val (fateD ("made", startG rs))) v15 v16 .no .no) = .nx (E ns v1 v2 v3 v4 v5 v6 v7 v8 v9 v10 v11 (.val (.lst (stD bl))) (.val (.lst (stD lo))) (.val (fateD (fateOf rs))) v15 v16 .no .no) := by
  have e1 := eq_nil b1.1 b1.2
  have e2 := eq_nil l1.1 l1.2
  have h2 : (2 : Nat) ≤ sizeLine := size_big (by decide)
  unfold fateOf
  rw [← hb, ← hlo]
  cases bl with
  | cons x r =>
    have a0 : atI (stD (x :: r)) 0 = some (.str x) := atI_nat (j := 0) rfl
    have e1 : eqD (.lst (stD (x :: r))) (.lst []) = some false := by rw [e1]; simp
    generalize stD (x :: r) = d at a0 e1
    rw [ifT (by simp [e1])]
    simp [a0, allFz, h2]
  | nil =>
    have e1 : eqD (.lst []) (.lst []) = some true := by simpa using e1
    rw [ifF (by simp [e1])]
    cases lo with
    | cons x r =>
      have a0 : atI (stD (x :: r)) 0 = some (.str x) := atI_nat (j := 0) rfl
      have e2 : eqD (.lst (stD (x :: r))) (.lst []) = some false := by rw [e2]; simp
      generalize stD (x :: r) = d at a0 e2
      rw [ifT (by simp [e2])]
      simp [a0, allFz, h2]
    | nil =>
      rw [ifF (by simp [e1])]
      rfl
theorem ev_law (ns : List Int) (hns : ns.length ≤ 63) : F_law [.scr ns] = .ok (.fz (.bl true)) := by
  unfold F_law runB b_law
  rw [show List.map SL.val [D.scr ns] ++ List.replicate (19 - [D.scr ns].length) SL.no = E ns .no .no .no .no .no .no .no .no .no .no .no .no .no .no .no .no .no .no from rfl]
  have hcell := ap_cell ns 0 0 rfl
  obtain ⟨ds, hdr, hd, _⟩ := ap_dr (cellOf ns 0) 32 32 rfl (by omega)
  have z2 : (2 : Nat) ≤ sizeLine := size_big (by decide)
  have z4 : (4 : Nat) ≤ sizeLine := size_big (by decide)
  have z6 : (6 : Nat) ≤ sizeLine := size_big (by decide)
  rw [seq_ok (setF_ok (a := .ow true (.lst (natD ds))) (d := .lst (natD ds)) (by simp [hcell, hdr]) rfl)]
  rw [seq_ok (setF_ok (a := .ow true (.lst (stD nm4))) (d := .lst (stD nm4)) (by simp [allFz, z4, nm4]) rfl)]
  simp only [List.set_cons_zero, List.set_cons_succ]
  rw [seq_ok (setF_ok (a := .ow true (.lst (stD sym6))) (d := .lst (stD sym6)) (by simp [allFz, z2, z6, nm4, sym6]) rfl)]
  rw [seq_ok (setO_ok (w := .lst []) (by simp))]
  simp only [List.set_cons_zero, List.set_cons_succ]
  -- the rules
  have hn : ∃ n : Nat, 1 ≤ n ∧ n ≤ 6 ∧ (m2 (mC (.int 1)) (m2 (mCall (mCons (m2 (mV 1) (mC (.int 0)) opIx) mNil) gInt) (mC (.int 6)) opMod) opAdd) (E ns (.val (.lst (natD ds))) (.val (.lst (stD nm4))) (.val (.lst (stD sym6))) (.own (.lst [])) .no .no .no .no .no .no .no .no .no .no .no .no .no .no) = .ok (.fz (.int n)) := by
    have i0 := at_nat ds 0 0 rfl (by omega)
    refine ⟨1 + ds[0] % 6, by omega, by omega, ?_⟩
    simp [i0]
  obtain ⟨n, n1, n6, hn⟩ := hn
  obtain ⟨e', h1, _, v5, v6, v7, h2⟩ := for_inv (p := pName 5) (b := l1_law) (fun (i : Nat) => D.int i) (fun i e => i ≤ 6 ∧ ∃ v5 v6 v7, e = E ns (.val (.lst (natD ds))) (.val (.lst (stD nm4))) (.val (.lst (stD sym6))) (.own (.lst (((List.range i).map (rAt ds)).map rL))) v5 v6 v7 .no .no .no .no .no .no .no .no .no .no .no) (List.range n) 0
    (E ns (.val (.lst (natD ds))) (.val (.lst (stD nm4))) (.val (.lst (stD sym6))) (.own (.lst [])) .no .no .no .no .no .no .no .no .no .no .no .no .no .no) (fun i k e hk ⟨hi, v5, v6, v7, he⟩ => by
      rw [Nat.zero_add] at *
      obtain ⟨q1, q2⟩ := List.getElem?_eq_some_iff.mp hk
      rw [List.getElem_range] at q2
      rw [List.length_range] at q1
      subst q2
      subst he
      obtain ⟨v6', v7', h⟩ := step1 (ns := ns) hd (rules := ((List.range i).map (rAt ds)).map rL) (by simp; omega) (k := i) (by omega) v6 v7
      refine ⟨_, _, rfl, .inl h, by omega, .val (.int i), v6', v7', ?_⟩
      rw [List.range_succ, List.map_append, List.map_append]
      rfl) ⟨Nat.zero_le _, .no, .no, .no, rfl⟩
  rw [Nat.zero_add, List.length_range] at h2
  subst h2
  have hfor : mFor (mRng1 (mCons (m2 (mC (.int 1)) (m2 (mCall (mCons (m2 (mV 1) (mC (.int 0)) opIx) mNil) gInt) (mC (.int 6)) opMod) opAdd) mNil)) (pName 5) l1_law (E ns (.val (.lst (natD ds))) (.val (.lst (stD nm4))) (.val (.lst (stD sym6))) (.own (.lst [])) .no .no .no .no .no .no .no .no .no .no .no .no .no .no) = _ := (for_ok (rng1_ok (n := n) hn (by omega))).trans h1
  rw [seq_ok hfor]
  have hrs : Rs ((List.range n).map (rAt ds)) := by
    have all : ∀ r ∈ (List.range n).map (rAt ds), ∃ k, rAt ds k = r := fun r hr => by
      obtain ⟨k, _, e⟩ := List.mem_map.mp hr; exact ⟨k, e⟩
    refine ⟨fun e => ?_, by simpa using n6, fun r hr => ?_, fun r hr => ?_, fun r hr => ?_⟩
    · have := congrArg List.length e
      simp at this
      omega
    · obtain ⟨k, rfl⟩ := all r hr; exact (rAt_ok ds k).1
    · obtain ⟨k, rfl⟩ := all r hr; exact (rAt_ok ds k).2.1
    · obtain ⟨k, rfl⟩ := all r hr; exact (rAt_ok ds k).2.2
  generalize (List.range n).map (rAt ds) = rs at hrs
  have gok := hrs.gok
  have hR := hrs.n6
  rw [seq_ok (setF_ok (a := .ow true (.lst [])) (d := .lst []) (by simp) rfl)]
  simp only [List.set_cons_zero, List.set_cons_succ]
  -- the names that are used
  obtain ⟨e2, k1, v9, k2⟩ := for_inv (p := pName 9) (b := l2_law) rL (fun i e => ∃ v9, e = E ns (.val (.lst (natD ds))) (.val (.lst (stD nm4))) (.val (.lst (stD sym6))) (.val (.lst (rs.map rL))) v5 v6 v7 (.val (.lst (stD (usedR (rs.take i))))) v9 .no .no .no .no .no .no .no .no .no) rs 0
    (E ns (.val (.lst (natD ds))) (.val (.lst (stD nm4))) (.val (.lst (stD sym6))) (.val (.lst (rs.map rL))) v5 v6 v7 (.val (.lst [])) .no .no .no .no .no .no .no .no .no .no) (fun i r e hk ⟨v9, he⟩ => by
      rw [Nat.zero_add] at *
      subst he
      have hr : r ∈ rs := List.mem_of_getElem? hk
      have h := step2 (ns := ns) (v1 := .val (.lst (natD ds))) (v2 := .val (.lst (stD nm4))) (v3 := .val (.lst (stD sym6))) (v5 := v5) (v6 := v6) (v7 := v7) (u := usedR (rs.take i)) (.val (.lst (rs.map rL))) (hrs.okr r hr) (gok.sy r hr) (by have := used_take_len hrs i; omega) (hrs.len r hr)
      refine ⟨_, _, rfl, .inl h, .val (rL r), ?_⟩
      rw [used_take hk]) ⟨.no, rfl⟩
  rw [Nat.zero_add, List.take_length] at k2
  subst k2
  have hused : (mFrz 4 (mFor (mItems (mV 4)) (pName 9) l2_law)) (E ns (.val (.lst (natD ds))) (.val (.lst (stD nm4))) (.val (.lst (stD sym6))) (.own (.lst (rs.map rL))) v5 v6 v7 (.val (.lst [])) .no .no .no .no .no .no .no .no .no .no) = _ := (mFrz_own (w := .lst (rs.map rL)) rfl).trans ((for_ok (ds := rs.map rL) (by simp)).trans k1)
  rw [seq_ok hused]
  -- what the law's own functions tell
  have hls := appF_fz (F := F__law_least) (evs := [.fz (.lst (rs.map rL))]) (ev_law_least gok.gd gok.sy) rfl
  obtain ⟨r0, rest, e0⟩ : ∃ r0 rest, rs = r0 :: rest := by
    cases h : rs with
    | nil => exact absurd h hrs.ne
    | cons a b => exact ⟨a, b, rfl⟩
  have hst : startG rs = r0.1 := by rw [e0]; rfl
  have h0 : rs[0]? = some r0 := by rw [e0]; rfl
  have hA := gok.allR
  have hre := appF_ow1 (ev_law_reached gok.ruok gok.sy h0 (by unfold allS; rw [List.length_cons]; have : (rs.flatMap (·.2)).length ≤ 48 := hA; omega))
  rw [← hst] at hre
  rw [seq_ok (setF_ok (a := .fz (.dct false true (kvsD lW (least rs)))) (d := .dct false true (kvsD lW (least rs))) (by simp [hls]) rfl)]
  simp only [List.set_cons_zero, List.set_cons_succ]
  rw [seq_ok (setF_ok (a := .ow true (.lst (stD (reach rs (startG rs))))) (d := .lst (stD (reach rs (startG rs)))) (by simp [hre]) rfl)]
  simp only [List.set_cons_zero, List.set_cons_succ]
  have hul := used_len hrs
  have hni : ∀ x : Str, opNi (.fz (.str x)) (.fz (.dct false true (kvsD lW (least rs)))) = .ok (.fz (.bl (!(getA (least rs) x).isSome))) := fun x => ni_kvs lW (least rs) x (t := true) rfl
  have hnr : ∀ x : Str, opNi (.fz (.str x)) (.fz (.lst (stD (reach rs (startG rs))))) = .ok (.fz (.bl (!decide (x ∈ reach rs (startG rs))))) := fun x => ni_strsL x _
  have fb := List.length_filter_le (fun x => (getA (least rs) x).isNone) (usedR rs)
  have fl := List.length_filter_le (fun x => !decide (x ∈ reach rs (startG rs))) (usedR rs)
  have hlc1 : ∀ v12 v13 v14 v15 v16 : SL, mLc (mItems (mV 8)) (pName 18) t2_law e3_law [18] (E ns (.val (.lst (natD ds))) (.val (.lst (stD nm4))) (.val (.lst (stD sym6))) (.val (.lst (rs.map rL))) v5 v6 v7 (.val (.lst (stD (usedR rs)))) v9 (.val (.dct false true (kvsD lW (least rs)))) (.val (.lst (stD (reach rs (startG rs))))) v12 v13 v14 v15 v16 .no .no) = .ok (.ow true (.lst (stD ((usedR rs).filter fun x => (getA (least rs) x).isNone)))) := fun v12 v13 v14 v15 v16 =>
    mLc_if (i := 18) (en := D.str) (f := D.str) (k := fun x => (getA (least rs) x).isNone) (xs := usedR rs) (by simp) (fun x hx => by unfold t2_law; cases hg : getA (least rs) x <;> simp [hni, hg]) (fun x hx _ => ⟨.fz (.str x), by unfold e3_law; simp, rfl⟩) (size_big (by omega))
  have hlc2 : ∀ v12 v13 v14 v15 v16 : SL, mLc (mItems (mV 8)) (pName 18) t3_law e4_law [18] (E ns (.val (.lst (natD ds))) (.val (.lst (stD nm4))) (.val (.lst (stD sym6))) (.val (.lst (rs.map rL))) v5 v6 v7 (.val (.lst (stD (usedR rs)))) v9 (.val (.dct false true (kvsD lW (least rs)))) (.val (.lst (stD (reach rs (startG rs))))) v12 v13 v14 v15 v16 .no .no) = .ok (.ow true (.lst (stD ((usedR rs).filter fun x => !decide (x ∈ reach rs (startG rs)))))) := fun v12 v13 v14 v15 v16 =>
    mLc_if (i := 18) (en := D.str) (f := D.str) (k := fun x => !decide (x ∈ reach rs (startG rs))) (xs := usedR rs) (by simp) (fun x hx => by unfold t3_law; simp [hnr]) (fun x hx _ => ⟨.fz (.str x), by unfold e4_law; simp, rfl⟩) (size_big (by omega))
  have hs1 := ap_sorted ((usedR rs).filter fun x => (getA (least rs) x).isNone) (by omega)
  have hs2 := ap_sorted ((usedR rs).filter fun x => !decide (x ∈ reach rs (startG rs))) (by omega)
  have hh1 := first_of (usedR rs) fun x => (getA (least rs) x).isNone
  have hh2 := first_of (usedR rs) fun x => !decide (x ∈ reach rs (startG rs))
  rw [sort_used hrs] at hh1 hh2
  have hl1 := (isort_perm strLt ((usedR rs).filter fun x => (getA (least rs) x).isNone)).length_eq
  have hl2 := (isort_perm strLt ((usedR rs).filter fun x => !decide (x ∈ reach rs (startG rs)))).length_eq
  have ho1 : ∀ x ∈ isort strLt ((usedR rs).filter fun x => (getA (least rs) x).isNone), PyData.strOk x = true := fun x hx => (sym_ok x (used_ok hrs x (List.mem_filter.mp ((isort_perm strLt _).mem_iff.mp hx)).1)).1
  have ho2 : ∀ x ∈ isort strLt ((usedR rs).filter fun x => !decide (x ∈ reach rs (startG rs))), PyData.strOk x = true := fun x hx => (sym_ok x (used_ok hrs x (List.mem_filter.mp ((isort_perm strLt _).mem_iff.mp hx)).1)).1
  rw [seq_ok (setF_ok (a := .ow true (.lst (stD (isort strLt ((usedR rs).filter fun x => (getA (least rs) x).isNone))))) (d := .lst (stD (isort strLt ((usedR rs).filter fun x => (getA (least rs) x).isNone)))) (by simp only [mFn_e, mCons_e, mNil_e, hlc1, Rz.ok_bind, EV.fr_new, OW.d_lst, List.length_cons, List.length_nil, if_true, hs1]) rfl)]
  simp only [List.set_cons_zero, List.set_cons_succ]
  rw [seq_ok (setF_ok (a := .ow true (.lst (stD (isort strLt ((usedR rs).filter fun x => !decide (x ∈ reach rs (startG rs))))))) (d := .lst (stD (isort strLt ((usedR rs).filter fun x => !decide (x ∈ reach rs (startG rs)))))) (by simp only [mFn_e, mCons_e, mNil_e, hlc2, Rz.ok_bind, EV.fr_new, OW.d_lst, List.length_cons, List.length_nil, if_true, hs2]) rfl)]
  simp only [List.set_cons_zero, List.set_cons_succ]
  generalize isort strLt ((usedR rs).filter fun x => (getA (least rs) x).isNone) = bl at *
  generalize isort strLt ((usedR rs).filter fun x => !decide (x ∈ reach rs (startG rs))) = lo at *
  have hix : atI (rs.map rL) 0 = some (rL r0) := atI_nat (j := 0) (by rw [e0]; rfl)
  have hi0 : ixD (.fz (rL r0)) (.fz (.int 0)) = some (.str r0.1) := rfl
  rw [seq_ok (setF_ok (a := .fz (fateD ("made", startG rs))) (d := fateD ("made", startG rs)) (by simp [hix, hi0, allFz, z2, hst]) rfl)]
  simp only [List.set_cons_zero, List.set_cons_succ]
  rw [seq_ok (step4 hrs bl lo hh1 hh2 ⟨by omega, ho1⟩ ⟨by omega, ho2⟩)]
  rw [seq_ok (setF_ok (a := .ow true (.lst (goodR.map rL))) (d := .lst (goodR.map rL)) (by simp [allFz, z2, goodR, rL]) rfl)]
  simp only [List.set_cons_zero, List.set_cons_succ]
  have hlast : ∃ v16, (mFrz 4 (mFor (mItems (mLst (mCons (mTup (mCons (mV 15) (mCons (mTup (mCons (mC (.str "made")) (mCons (mC (.str "Bx")) mNil))) mNil))) (mCons (mTup (mCons (mV 4) (mCons (mV 14) mNil))) (mCons (mTup (mCons (mV 15) (mCons (mTup (mCons (mC (.str "made")) (mCons (mC (.str "Bx")) mNil))) mNil))) (mCons (mTup (mCons (mV 4) (mCons (mV 14) mNil))) mNil)))))) (pName 16) l3_law))
      (E ns (.val (.lst (natD ds))) (.val (.lst (stD nm4))) (.val (.lst (stD sym6))) (.val (.lst (rs.map rL))) v5 v6 v7 (.val (.lst (stD (usedR rs)))) v9 (.val (.dct false true (kvsD lW (least rs)))) (.val (.lst (stD (reach rs (startG rs))))) (.val (.lst (stD bl))) (.val (.lst (stD lo))) (.val (fateD (fateOf rs))) (.val (.lst (goodR.map rL))) .no .no .no) = .nx (E ns (.val (.lst (natD ds))) (.val (.lst (stD nm4))) (.val (.lst (stD sym6))) (.val (.lst (rs.map rL))) v5 v6 v7 (.val (.lst (stD (usedR rs)))) v9 (.val (.dct false true (kvsD lW (least rs)))) (.val (.lst (stD (reach rs (startG rs))))) (.val (.lst (stD bl))) (.val (.lst (stD lo))) (.val (fateD (fateOf rs))) (.val (.lst (goodR.map rL))) v16 .no .no) := by
    refine ⟨.val (.tup [.lst (rs.map rL), fateD (fateOf rs)]), (mFrz_val (d := .lst (rs.map rL)) rfl).trans ((for_ok (ds := [.tup [.lst (goodR.map rL), fateD (fateOf goodR)], .tup [.lst (rs.map rL), fateD (fateOf rs)], .tup [.lst (goodR.map rL), fateD (fateOf goodR)], .tup [.lst (rs.map rL), fateD (fateOf rs)]]) ?_).trans ?_)⟩
    · rw [good_fate]
      simp [allFz, z2, z4]
    · rw [forF, pName_e]
      simp only [List.set_cons_zero, List.set_cons_succ]
      rw [step3 good_rs]
      dsimp only
      rw [forF, pName_e]
      simp only [List.set_cons_zero, List.set_cons_succ]
      rw [step3 hrs]
      dsimp only
      rw [forF, pName_e]
      simp only [List.set_cons_zero, List.set_cons_succ]
      rw [step3 good_rs]
      dsimp only
      rw [forF, pName_e]
      simp only [List.set_cons_zero, List.set_cons_succ]
      rw [step3 hrs]
      rfl
  obtain ⟨v16, hlast⟩ := hlast
  rw [seq_ok hlast]
  simp
end LW.K07
namespace LW.K07
open PySem PySem.Spec PyProof.Rows L2 DL
def fa0 : He.Fa := .glo "_law_draws"
def fa1 : He.Fa := .glo "_law_name"
def fa2 : He.Fa := .glo "_law_less"
def fa3 : He.Fa := .glo "_law_least"
def fa4 : He.Fa := .glo "_law_reached"
def fa5 : He.Fa := .glo "_law_sorted"
def fa6 : He.Fa := .glo "_law_cell"
def fa7 : He.Fa := .glo "_law_same"
def fa8 : He.Fa := .glo "RuleError"
def fa9 : He.Fa := .glo "order"
def fa10 : He.Fa := .glo "is_word"
def fa11 : He.Fa := .glo "is_sign"
def fa12 : He.Fa := .glo "least_words"
def fa13 : He.Fa := .glo "is_name"
def fa14 : He.Fa := .glo "reached_names"
def fa15 : He.Fa := .glo "Signs"
def fa16 : He.Fa := .glo "leading"
def fa17 : He.Fa := .glo "first_signs"
def fa18 : He.Fa := .glo "TooLarge"
def fa19 : He.Fa := .glo "Barren"
def fa20 : He.Fa := .glo "Unreached"
def fa21 : He.Fa := .glo "is_rule"
def fa22 : He.Fa := .glo "Grammar"
def fa23 : He.Fa := .cls "Grammar"
def fa24 : He.Fa := .mkr "Grammar"
def fa25 : He.Fa := .glo "parse_rule"
def fa26 : He.Fa := .glo "_law_lines"
def fa27 : He.Fa := .glo "NameFault"
def fa28 : He.Fa := .glo "LineError"
def fa29 : He.Fa := .glo "AwaitError"
def fa30 : He.Fa := .glo "_law_fate"
def fa31 : He.Fa := .free "abs"
def fa32 : He.Fa := .free "all"
def fa33 : He.Fa := .free "bool"
def fa34 : He.Fa := .free "enumerate"
def fa35 : He.Fa := .free "int"
def fa36 : He.Fa := .free "isinstance"
def fa37 : He.Fa := .free "len"
def fa38 : He.Fa := .free "list"
def fa39 : He.Fa := .free "range"
def fa40 : He.Fa := .free "sorted"
def fa41 : He.Fa := .free "str"
def fa42 : He.Fa := .free "super"
def fa43 : He.Fa := .free "tuple"
def fa44 : He.Fa := .str "LOWER" "abcdefghijklmnopqrstuvwxyz"
def fa45 : He.Fa := .str "UPPER" "ABCDEFGHIJKLMNOPQRSTUVWXYZ"
def fa46 : He.Fa := .str "DIGITS" "0123456789"
def fa47 : He.Fa := .glo "law"
def fb0 : PySem.W.Frag → Bool := fun K => supB K (He.ga K "RuleError") (He.ga K "LineError")
def fb1 : PySem.W.Frag → Bool := fun K => initB K (He.ga K "RuleError") (He.ga K "LineError")
def fb2 : PySem.W.Frag → Bool := fun K => cvS K (He.ga K "Signs") "END" "$"
def fb3 : PySem.W.Frag → Bool := fun K => supB K (He.ga K "TooLarge") (He.ga K "TooLarge")
def fb4 : PySem.W.Frag → Bool := fun K => initB K (He.ga K "TooLarge") (He.ga K "TooLarge")
def fb5 : PySem.W.Frag → Bool := fun K => supB K (He.ga K "Barren") (He.ga K "NameFault")
def fb6 : PySem.W.Frag → Bool := fun K => initB K (He.ga K "Barren") (He.ga K "NameFault")
def fb7 : PySem.W.Frag → Bool := fun K => supB K (He.ga K "Unreached") (He.ga K "NameFault")
def fb8 : PySem.W.Frag → Bool := fun K => initB K (He.ga K "Unreached") (He.ga K "NameFault")
def fb9 : PySem.W.Frag → Bool := fun K => cvI K (He.ga K "Grammar") "MOST_SYMBOLS" 4
def fb10 : PySem.W.Frag → Bool := fun K => cvI K (He.ga K "Grammar") "MOST_SIGNS" 6
def fb11 : PySem.W.Frag → Bool := fun K => cvI K (He.ga K "Grammar") "MOST_NAMES" 6
def fb12 : PySem.W.Frag → Bool := fun K => cvI K (He.ga K "Grammar") "MOST_RULES" 12
def fb13 : PySem.W.Frag → Bool := fun K => cvI K (He.ga K "Grammar") "MOST_WORD" 99
def fb14 : PySem.W.Frag → Bool := fun K => crB K (He.ga K "Grammar")
def fb15 : PySem.W.Frag → Bool := fun K => cmB K (He.ga K "Grammar") "read"
def fb16 : PySem.W.Frag → Bool := fun K => exmTab K (.ref (He.ga K "NameFault")) [("AwaitError", false), ("LineError", false), ("RuleError", false), ("TooLarge", false), ("NameFault", true), ("Barren", true), ("Unreached", true), ("SymbolError", false)]
def fb17 : PySem.W.Frag → Bool := fun K => excTab K ["AwaitError", "LineError", "RuleError", "TooLarge", "NameFault", "Barren", "Unreached", "SymbolError"]
def fb18 : PySem.W.Frag → Bool := fun K => kitTab K (.ref (He.ga K "Barren")) [("AwaitError", false), ("LineError", false), ("RuleError", false), ("TooLarge", false), ("NameFault", false), ("Barren", true), ("Unreached", false), ("SymbolError", false)]
def fb19 : PySem.W.Frag → Bool := fun K => kitTab K (.ref (He.ga K "Unreached")) [("AwaitError", false), ("LineError", false), ("RuleError", false), ("TooLarge", false), ("NameFault", false), ("Barren", false), ("Unreached", true), ("SymbolError", false)]
def fb20 : PySem.W.Frag → Bool := fun K => kitTab K (.ref (He.ga K "LineError")) [("AwaitError", false), ("LineError", true), ("RuleError", true), ("TooLarge", false), ("NameFault", false), ("Barren", false), ("Unreached", false), ("SymbolError", false)]
def fb21 : PySem.W.Frag → Bool := fun K => kitTab K (.ref (He.ga K "TooLarge")) [("AwaitError", false), ("LineError", false), ("RuleError", false), ("TooLarge", true), ("NameFault", false), ("Barren", false), ("Unreached", false), ("SymbolError", false)]
def fb22 : PySem.W.Frag → Bool := fun K => kitTab K (.ref (He.ga K "AwaitError")) [("AwaitError", true), ("LineError", true), ("RuleError", true), ("TooLarge", true), ("NameFault", true), ("Barren", true), ("Unreached", true), ("SymbolError", true)]
def fb23 : PySem.W.Frag → Bool := fun K => noatTab K [("RuleError", "line"), ("TooLarge", "what"), ("Barren", "name"), ("Unreached", "name"), ("Grammar", "rules"), ("Grammar", "names"), ("Grammar", "signs"), ("Grammar", "start"), ("Grammar", "least"), ("Grammar", "firsts"), ("NameFault", "name")]
def fn0 : He.DefD := ⟨("_law_draws", none), "_law_draws", "_law_draws", defArgs (top 29), defBody (top 29), defScope (top 29), [], []⟩
def fn1 : He.DefD := ⟨("_law_name", none), "_law_name", "_law_name", defArgs (top 31), defBody (top 31), defScope (top 31), [], []⟩
def fn2 : He.DefD := ⟨("_law_less", none), "_law_less", "_law_less", defArgs (top 32), defBody (top 32), defScope (top 32), [], []⟩
def fn3 : He.DefD := ⟨("_law_least", none), "_law_least", "_law_least", defArgs (top 34), defBody (top 34), defScope (top 34), [], []⟩
def fn4 : He.DefD := ⟨("_law_reached", none), "_law_reached", "_law_reached", defArgs (top 36), defBody (top 36), defScope (top 36), [], []⟩
def fn5 : He.DefD := ⟨("_law_sorted", none), "_law_sorted", "_law_sorted", defArgs (top 33), defBody (top 33), defScope (top 33), [], []⟩
def fn6 : He.DefD := ⟨("_law_cell", none), "_law_cell", "_law_cell", defArgs (top 28), defBody (top 28), defScope (top 28), [], []⟩
def fn7 : He.DefD := ⟨("_law_same", none), "_law_same", "_law_same", defArgs (top 30), defBody (top 30), defScope (top 30), [], []⟩
def fn8 : He.DefD := ⟨("order", none), "order", "order", defArgs (top 19), defBody (top 19), defScope (top 19), [], []⟩
def fn9 : He.DefD := ⟨("is_word", none), "is_word", "is_word", defArgs (top 14), defBody (top 14), defScope (top 14), [], []⟩
def fn10 : He.DefD := ⟨("is_sign", none), "is_sign", "is_sign", defArgs (top 15), defBody (top 15), defScope (top 15), [], []⟩
def fn11 : He.DefD := ⟨("least_words", none), "least_words", "least_words", defArgs (top 22), defBody (top 22), defScope (top 22), [], []⟩
def fn12 : He.DefD := ⟨("is_name", none), "is_name", "is_name", defArgs (top 16), defBody (top 16), defScope (top 16), [], []⟩
def fn13 : He.DefD := ⟨("reached_names", none), "reached_names", "reached_names", defArgs (top 25), defBody (top 25), defScope (top 25), [], []⟩
def fn14 : He.DefD := ⟨("leading", none), "leading", "leading", defArgs (top 23), defBody (top 23), defScope (top 23), [], []⟩
def fn15 : He.DefD := ⟨("first_signs", none), "first_signs", "first_signs", defArgs (top 24), defBody (top 24), defScope (top 24), [], []⟩
def fn16 : He.DefD := ⟨("is_rule", none), "is_rule", "is_rule", defArgs (top 20), defBody (top 20), defScope (top 20), [], []⟩
def fn17 : He.DefD := ⟨("Grammar", some "__init__"), "__init__", "Grammar.__init__", defArgs (inClass (top 26) 5), defBody (inClass (top 26) 5), defScope (inClass (top 26) 5), [], []⟩
def fn18 : He.DefD := ⟨("parse_rule", none), "parse_rule", "parse_rule", defArgs (top 21), defBody (top 21), defScope (top 21), [], []⟩
def fn19 : He.DefD := ⟨("_law_lines", none), "_law_lines", "_law_lines", defArgs (top 35), defBody (top 35), defScope (top 35), [], []⟩
def fn20 : He.DefD := ⟨("_law_fate", none), "_law_fate", "_law_fate", defArgs (top 37), defBody (top 37), defScope (top 37), [], []⟩
def fn21 : He.DefD := ⟨("law", none), "law", "law", defArgs (top 38), defBody (top 38), defScope (top 38), [], []⟩
def fs0 : DefS := ⟨"LineError", "LineError.__init__", defArgs (inClass (top 3) 0), defBody (inClass (top 3) 0), defScope (inClass (top 3) 0)⟩
def fs1 : DefS := ⟨"TooLarge", "TooLarge.__init__", defArgs (inClass (top 5) 0), defBody (inClass (top 5) 0), defScope (inClass (top 5) 0)⟩
def fs2 : DefS := ⟨"NameFault", "NameFault.__init__", defArgs (inClass (top 6) 0), defBody (inClass (top 6) 0), defScope (inClass (top 6) 0)⟩
def fc0 : DefC := ⟨"classmethod", 0, ⟨("Grammar", some "read"), "read", "Grammar.read", defArgs (inClass (top 26) 6), defBody (inClass (top 26) 6), defScope (inClass (top 26) 6), [], []⟩⟩
def l_fa : List (He.Fa) := ([fa0, fa1, fa2, fa3, fa4, fa5, fa6, fa7, fa8, fa9, fa10, fa11, fa12, fa13, fa14, fa15, fa16, fa17, fa18, fa19] : List (He.Fa)) ++ ([fa20, fa21, fa22, fa23, fa24, fa25, fa26, fa27, fa28, fa29, fa30, fa31, fa32, fa33, fa34, fa35, fa36, fa37, fa38, fa39] : List (He.Fa)) ++ ([fa40, fa41, fa42, fa43, fa44, fa45, fa46, fa47] : List (He.Fa))
def l_fb : List (PySem.W.Frag → Bool) := ([fb0, fb1, fb2, fb3, fb4, fb5, fb6, fb7, fb8, fb9, fb10, fb11, fb12, fb13, fb14, fb15, fb16, fb17, fb18, fb19] : List (PySem.W.Frag → Bool)) ++ ([fb20, fb21, fb22, fb23] : List (PySem.W.Frag → Bool))
def l_fn : List (He.DefD) := ([fn0, fn1, fn2, fn3, fn4, fn5, fn6, fn7, fn8, fn9, fn10, fn11, fn12, fn13, fn14, fn15, fn16, fn17, fn18, fn19] : List (He.DefD)) ++ ([fn20, fn21] : List (He.DefD))
def l_fs : List (DefS) := ([fs0, fs1, fs2] : List (DefS))
def l_fc : List (DefC) := ([fc0] : List (DefC))
def loose : List Str := (["_wall", "AwaitError", "LineError", "RuleError", "TooLarge", "NameFault", "Barren", "Unreached", "SymbolError", "LOWER", "UPPER", "DIGITS", "is_word", "is_sign", "is_name", "Signs", "order", "is_rule", "parse_rule", "least_words"] : List (Str)) ++ (["leading", "first_signs", "reached_names", "Grammar", "_law_cell", "_law_draws", "_law_same", "_law_name", "_law_less", "_law_sorted", "_law_least", "_law_lines", "_law_reached", "_law_fate"] : List (Str))
abbrev R : PySem.W.OpenRow := PySem.W.OpenLaw.row PySem.Challenge.rw_awaitbook_k07_names_that_are_useless
abbrev PP : Program := (PySem.Challenge.rw_awaitbook_k07_names_that_are_useless).prog
def ask : Ask := ⟨PP.main.file, l_fa, l_fb, l_fn, l_fs, l_fc⟩
abbrev hk : PySem.W.Hook := hookE 5 ask
def ob (s : PySem.W.SharedT) : AlE := obsEG 5 ask (HandSHeadRun.getT s)
theorem ob_eq (s : PySem.W.SharedT) : ob s = hk.obs s.abs := obsEG_eq (HandSHeadRun.getT_eq s)
theorem run (w : World) : HandSHeadRun.RunEq R (PySem.W.view R.prog [38]) hk ob 20000 loose w := by
  intro os
  kernel_rfl
theorem facts {K : PySem.W.Frag} {h : Heap} {mg : Str → Option Value} (X : K.In h) (G : h.Ns mainGlobals mg) (c : SaysE ask K) : Tx PP K mg := by
  have T_g__law_draws : mg "_law_draws" = some (.ref (He.ga K "_law_draws")) := He.glo_ok X G (c.fact 0 (f := fa0) rfl)
  have T_g__law_name : mg "_law_name" = some (.ref (He.ga K "_law_name")) := He.glo_ok X G (c.fact 1 (f := fa1) rfl)
  have T_g__law_less : mg "_law_less" = some (.ref (He.ga K "_law_less")) := He.glo_ok X G (c.fact 2 (f := fa2) rfl)
  have T_g__law_least : mg "_law_least" = some (.ref (He.ga K "_law_least")) := He.glo_ok X G (c.fact 3 (f := fa3) rfl)
  have T_g__law_reached : mg "_law_reached" = some (.ref (He.ga K "_law_reached")) := He.glo_ok X G (c.fact 4 (f := fa4) rfl)
  have T_g__law_sorted : mg "_law_sorted" = some (.ref (He.ga K "_law_sorted")) := He.glo_ok X G (c.fact 5 (f := fa5) rfl)
  have T_g__law_cell : mg "_law_cell" = some (.ref (He.ga K "_law_cell")) := He.glo_ok X G (c.fact 6 (f := fa6) rfl)
  have T_g__law_same : mg "_law_same" = some (.ref (He.ga K "_law_same")) := He.glo_ok X G (c.fact 7 (f := fa7) rfl)
  have T_gk_RuleError : mg "RuleError" = some (.ref (He.ga K "RuleError")) := He.glo_ok X G (c.fact 8 (f := fa8) rfl)
  have T_g_order : mg "order" = some (.ref (He.ga K "order")) := He.glo_ok X G (c.fact 9 (f := fa9) rfl)
  have T_g_is_word : mg "is_word" = some (.ref (He.ga K "is_word")) := He.glo_ok X G (c.fact 10 (f := fa10) rfl)
  have T_g_is_sign : mg "is_sign" = some (.ref (He.ga K "is_sign")) := He.glo_ok X G (c.fact 11 (f := fa11) rfl)
  have T_g_least_words : mg "least_words" = some (.ref (He.ga K "least_words")) := He.glo_ok X G (c.fact 12 (f := fa12) rfl)
  have T_g_is_name : mg "is_name" = some (.ref (He.ga K "is_name")) := He.glo_ok X G (c.fact 13 (f := fa13) rfl)
  have T_g_reached_names : mg "reached_names" = some (.ref (He.ga K "reached_names")) := He.glo_ok X G (c.fact 14 (f := fa14) rfl)
  have T_gk_Signs : mg "Signs" = some (.ref (He.ga K "Signs")) := He.glo_ok X G (c.fact 15 (f := fa15) rfl)
  have T_g_leading : mg "leading" = some (.ref (He.ga K "leading")) := He.glo_ok X G (c.fact 16 (f := fa16) rfl)
  have T_g_first_signs : mg "first_signs" = some (.ref (He.ga K "first_signs")) := He.glo_ok X G (c.fact 17 (f := fa17) rfl)
  have T_gk_TooLarge : mg "TooLarge" = some (.ref (He.ga K "TooLarge")) := He.glo_ok X G (c.fact 18 (f := fa18) rfl)
  have T_gk_Barren : mg "Barren" = some (.ref (He.ga K "Barren")) := He.glo_ok X G (c.fact 19 (f := fa19) rfl)
  have T_gk_Unreached : mg "Unreached" = some (.ref (He.ga K "Unreached")) := He.glo_ok X G (c.fact 20 (f := fa20) rfl)
  have T_g_is_rule : mg "is_rule" = some (.ref (He.ga K "is_rule")) := He.glo_ok X G (c.fact 21 (f := fa21) rfl)
  have T_gk_Grammar : mg "Grammar" = some (.ref (He.ga K "Grammar")) := He.glo_ok X G (c.fact 22 (f := fa22) rfl)
  have T_k_Grammar : Cls K (He.ga K "Grammar") := He.cls_ok (c.fact 23 (f := fa23) rfl)
  have T_mk_Grammar : Mk K (He.ga K "Grammar") (He.ma K (He.ga K "Grammar") "__init__") := He.mkr_ok (c.fact 24 (f := fa24) rfl)
  have T_g_parse_rule : mg "parse_rule" = some (.ref (He.ga K "parse_rule")) := He.glo_ok X G (c.fact 25 (f := fa25) rfl)
  have T_g__law_lines : mg "_law_lines" = some (.ref (He.ga K "_law_lines")) := He.glo_ok X G (c.fact 26 (f := fa26) rfl)
  have T_gk_NameFault : mg "NameFault" = some (.ref (He.ga K "NameFault")) := He.glo_ok X G (c.fact 27 (f := fa27) rfl)
  have T_gk_LineError : mg "LineError" = some (.ref (He.ga K "LineError")) := He.glo_ok X G (c.fact 28 (f := fa28) rfl)
  have T_gk_AwaitError : mg "AwaitError" = some (.ref (He.ga K "AwaitError")) := He.glo_ok X G (c.fact 29 (f := fa29) rfl)
  have T_g__law_fate : mg "_law_fate" = some (.ref (He.ga K "_law_fate")) := He.glo_ok X G (c.fact 30 (f := fa30) rfl)
  have T_n_abs : mg "abs" = none := He.free_ok X G (c.fact 31 (f := fa31) rfl)
  have T_n_all : mg "all" = none := He.free_ok X G (c.fact 32 (f := fa32) rfl)
  have T_n_bool : mg "bool" = none := He.free_ok X G (c.fact 33 (f := fa33) rfl)
  have T_n_enumerate : mg "enumerate" = none := He.free_ok X G (c.fact 34 (f := fa34) rfl)
  have T_n_int : mg "int" = none := He.free_ok X G (c.fact 35 (f := fa35) rfl)
  have T_n_isinstance : mg "isinstance" = none := He.free_ok X G (c.fact 36 (f := fa36) rfl)
  have T_n_len : mg "len" = none := He.free_ok X G (c.fact 37 (f := fa37) rfl)
  have T_n_list : mg "list" = none := He.free_ok X G (c.fact 38 (f := fa38) rfl)
  have T_n_range : mg "range" = none := He.free_ok X G (c.fact 39 (f := fa39) rfl)
  have T_n_sorted : mg "sorted" = none := He.free_ok X G (c.fact 40 (f := fa40) rfl)
  have T_n_str : mg "str" = none := He.free_ok X G (c.fact 41 (f := fa41) rfl)
  have T_n_super : mg "super" = none := He.free_ok X G (c.fact 42 (f := fa42) rfl)
  have T_n_tuple : mg "tuple" = none := He.free_ok X G (c.fact 43 (f := fa43) rfl)
  have T_c_LOWER : ∃ t, mg "LOWER" = some (.str "abcdefghijklmnopqrstuvwxyz" t) := He.str_ok X G (c.fact 44 (f := fa44) rfl)
  have T_c_UPPER : ∃ t, mg "UPPER" = some (.str "ABCDEFGHIJKLMNOPQRSTUVWXYZ" t) := He.str_ok X G (c.fact 45 (f := fa45) rfl)
  have T_c_DIGITS : ∃ t, mg "DIGITS" = some (.str "0123456789" t) := He.str_ok X G (c.fact 46 (f := fa46) rfl)
  have T_u__law_draws : ∃ fd, FunD K "_law_draws" "_law_draws" (defArgs (top 29)) (defBody (top 29)) (defScope (top 29)) [] [] (He.ga K "_law_draws") fd := c.def_ 0 (d := fn0) rfl
  have T_u__law_name : ∃ fd, FunD K "_law_name" "_law_name" (defArgs (top 31)) (defBody (top 31)) (defScope (top 31)) [] [] (He.ga K "_law_name") fd := c.def_ 1 (d := fn1) rfl
  have T_u__law_less : ∃ fd, FunD K "_law_less" "_law_less" (defArgs (top 32)) (defBody (top 32)) (defScope (top 32)) [] [] (He.ga K "_law_less") fd := c.def_ 2 (d := fn2) rfl
  have T_u__law_least : ∃ fd, FunD K "_law_least" "_law_least" (defArgs (top 34)) (defBody (top 34)) (defScope (top 34)) [] [] (He.ga K "_law_least") fd := c.def_ 3 (d := fn3) rfl
  have T_u__law_reached : ∃ fd, FunD K "_law_reached" "_law_reached" (defArgs (top 36)) (defBody (top 36)) (defScope (top 36)) [] [] (He.ga K "_law_reached") fd := c.def_ 4 (d := fn4) rfl
  have T_u__law_sorted : ∃ fd, FunD K "_law_sorted" "_law_sorted" (defArgs (top 33)) (defBody (top 33)) (defScope (top 33)) [] [] (He.ga K "_law_sorted") fd := c.def_ 5 (d := fn5) rfl
  have T_u__law_cell : ∃ fd, FunD K "_law_cell" "_law_cell" (defArgs (top 28)) (defBody (top 28)) (defScope (top 28)) [] [] (He.ga K "_law_cell") fd := c.def_ 6 (d := fn6) rfl
  have T_u__law_same : ∃ fd, FunD K "_law_same" "_law_same" (defArgs (top 30)) (defBody (top 30)) (defScope (top 30)) [] [] (He.ga K "_law_same") fd := c.def_ 7 (d := fn7) rfl
  have T_us_LineError : ∃ fd, DX.FunS PP K "LineError.__init__" (defArgs (inClass (top 3) 0)) (defBody (inClass (top 3) 0)) (defScope (inClass (top 3) 0)) (He.ga K "LineError") (He.ma K (He.ga K "LineError") "__init__") fd := c.ini 0 (d := fs0) (P := PP) rfl rfl
  have T_tp : (PP.main.scope.names.lookup ("super" : Str)).isSome = false := by kernel_rfl
  have T_sup_RuleError : supB K (He.ga K "RuleError") (He.ga K "LineError") = true := (c.fb 0 (f := fb0) rfl)
  have T_ini_RuleError : initB K (He.ga K "RuleError") (He.ga K "LineError") = true := (c.fb 1 (f := fb1) rfl)
  have T_u_order : ∃ fd, FunD K "order" "order" (defArgs (top 19)) (defBody (top 19)) (defScope (top 19)) [] [] (He.ga K "order") fd := c.def_ 8 (d := fn8) rfl
  have T_u_is_word : ∃ fd, FunD K "is_word" "is_word" (defArgs (top 14)) (defBody (top 14)) (defScope (top 14)) [] [] (He.ga K "is_word") fd := c.def_ 9 (d := fn9) rfl
  have T_u_is_sign : ∃ fd, FunD K "is_sign" "is_sign" (defArgs (top 15)) (defBody (top 15)) (defScope (top 15)) [] [] (He.ga K "is_sign") fd := c.def_ 10 (d := fn10) rfl
  have T_u_least_words : ∃ fd, FunD K "least_words" "least_words" (defArgs (top 22)) (defBody (top 22)) (defScope (top 22)) [] [] (He.ga K "least_words") fd := c.def_ 11 (d := fn11) rfl
  have T_u_is_name : ∃ fd, FunD K "is_name" "is_name" (defArgs (top 16)) (defBody (top 16)) (defScope (top 16)) [] [] (He.ga K "is_name") fd := c.def_ 12 (d := fn12) rfl
  have T_u_reached_names : ∃ fd, FunD K "reached_names" "reached_names" (defArgs (top 25)) (defBody (top 25)) (defScope (top 25)) [] [] (He.ga K "reached_names") fd := c.def_ 13 (d := fn13) rfl
  have T_cv_Signs_END : CCon K mg "Signs" "END" (.str "$") := cvS_ok T_gk_Signs (c.fb 2 (f := fb2) rfl)
  have T_u_leading : ∃ fd, FunD K "leading" "leading" (defArgs (top 23)) (defBody (top 23)) (defScope (top 23)) [] [] (He.ga K "leading") fd := c.def_ 14 (d := fn14) rfl
  have T_u_first_signs : ∃ fd, FunD K "first_signs" "first_signs" (defArgs (top 24)) (defBody (top 24)) (defScope (top 24)) [] [] (He.ga K "first_signs") fd := c.def_ 15 (d := fn15) rfl
  have T_us_TooLarge : ∃ fd, DX.FunS PP K "TooLarge.__init__" (defArgs (inClass (top 5) 0)) (defBody (inClass (top 5) 0)) (defScope (inClass (top 5) 0)) (He.ga K "TooLarge") (He.ma K (He.ga K "TooLarge") "__init__") fd := c.ini 1 (d := fs1) (P := PP) rfl rfl
  have T_sup_TooLarge : supB K (He.ga K "TooLarge") (He.ga K "TooLarge") = true := (c.fb 3 (f := fb3) rfl)
  have T_ini_TooLarge : initB K (He.ga K "TooLarge") (He.ga K "TooLarge") = true := (c.fb 4 (f := fb4) rfl)
  have T_us_NameFault : ∃ fd, DX.FunS PP K "NameFault.__init__" (defArgs (inClass (top 6) 0)) (defBody (inClass (top 6) 0)) (defScope (inClass (top 6) 0)) (He.ga K "NameFault") (He.ma K (He.ga K "NameFault") "__init__") fd := c.ini 2 (d := fs2) (P := PP) rfl rfl
  have T_sup_Barren : supB K (He.ga K "Barren") (He.ga K "NameFault") = true := (c.fb 5 (f := fb5) rfl)
  have T_ini_Barren : initB K (He.ga K "Barren") (He.ga K "NameFault") = true := (c.fb 6 (f := fb6) rfl)
  have T_sup_Unreached : supB K (He.ga K "Unreached") (He.ga K "NameFault") = true := (c.fb 7 (f := fb7) rfl)
  have T_ini_Unreached : initB K (He.ga K "Unreached") (He.ga K "NameFault") = true := (c.fb 8 (f := fb8) rfl)
  have T_u_is_rule : ∃ fd, FunD K "is_rule" "is_rule" (defArgs (top 20)) (defBody (top 20)) (defScope (top 20)) [] [] (He.ga K "is_rule") fd := c.def_ 16 (d := fn16) rfl
  have T_cv_Grammar_MOST_SYMBOLS : CCon K mg "Grammar" "MOST_SYMBOLS" (.int 4) := cvI_ok T_gk_Grammar (c.fb 9 (f := fb9) rfl)
  have T_cv_Grammar_MOST_SIGNS : CCon K mg "Grammar" "MOST_SIGNS" (.int 6) := cvI_ok T_gk_Grammar (c.fb 10 (f := fb10) rfl)
  have T_cv_Grammar_MOST_NAMES : CCon K mg "Grammar" "MOST_NAMES" (.int 6) := cvI_ok T_gk_Grammar (c.fb 11 (f := fb11) rfl)
  have T_cv_Grammar_MOST_RULES : CCon K mg "Grammar" "MOST_RULES" (.int 12) := cvI_ok T_gk_Grammar (c.fb 12 (f := fb12) rfl)
  have T_cv_Grammar_MOST_WORD : CCon K mg "Grammar" "MOST_WORD" (.int 99) := cvI_ok T_gk_Grammar (c.fb 13 (f := fb13) rfl)
  have T_u_Grammar_init : ∃ fd, FunD K "__init__" "Grammar.__init__" (defArgs (inClass (top 26) 5)) (defBody (inClass (top 26) 5)) (defScope (inClass (top 26) 5)) [] [] (He.ma K (He.ga K "Grammar") "__init__") fd := c.def_ 17 (d := fn17) rfl
  have T_u_parse_rule : ∃ fd, FunD K "parse_rule" "parse_rule" (defArgs (top 21)) (defBody (top 21)) (defScope (top 21)) [] [] (He.ga K "parse_rule") fd := c.def_ 18 (d := fn18) rfl
  have T_cr_Grammar : crB K (He.ga K "Grammar") = true := (c.fb 14 (f := fb14) rfl)
  have T_cm_Grammar_read : cmB K (He.ga K "Grammar") "read" = true := (c.fb 15 (f := fb15) rfl)
  have T_u_Grammar_read : ∃ fd, FunD K "read" "Grammar.read" (defArgs (inClass (top 26) 6)) (defBody (inClass (top 26) 6)) (defScope (inClass (top 26) 6)) [] [] (cmA K (He.ga K "Grammar") "read") fd := c.rec 0 (d := fc0) rfl
  have T_u__law_lines : ∃ fd, FunD K "_law_lines" "_law_lines" (defArgs (top 35)) (defBody (top 35)) (defScope (top 35)) [] [] (He.ga K "_law_lines") fd := c.def_ 19 (d := fn19) rfl
  have T_exm_NameFault : exmTab K (.ref (He.ga K "NameFault")) [("AwaitError", false), ("LineError", false), ("RuleError", false), ("TooLarge", false), ("NameFault", true), ("Barren", true), ("Unreached", true), ("SymbolError", false)] = true := (c.fb 16 (f := fb16) rfl)
  have T_exc : excTab K ["AwaitError", "LineError", "RuleError", "TooLarge", "NameFault", "Barren", "Unreached", "SymbolError"] = true := (c.fb 17 (f := fb17) rfl)
  have T_kit_Barren : kitTab K (.ref (He.ga K "Barren")) [("AwaitError", false), ("LineError", false), ("RuleError", false), ("TooLarge", false), ("NameFault", false), ("Barren", true), ("Unreached", false), ("SymbolError", false)] = true := (c.fb 18 (f := fb18) rfl)
  have T_kit_Unreached : kitTab K (.ref (He.ga K "Unreached")) [("AwaitError", false), ("LineError", false), ("RuleError", false), ("TooLarge", false), ("NameFault", false), ("Barren", false), ("Unreached", true), ("SymbolError", false)] = true := (c.fb 19 (f := fb19) rfl)
  have T_kit_LineError : kitTab K (.ref (He.ga K "LineError")) [("AwaitError", false), ("LineError", true), ("RuleError", true), ("TooLarge", false), ("NameFault", false), ("Barren", false), ("Unreached", false), ("SymbolError", false)] = true := (c.fb 20 (f := fb20) rfl)
  have T_kit_TooLarge : kitTab K (.ref (He.ga K "TooLarge")) [("AwaitError", false), ("LineError", false), ("RuleError", false), ("TooLarge", true), ("NameFault", false), ("Barren", false), ("Unreached", false), ("SymbolError", false)] = true := (c.fb 21 (f := fb21) rfl)
  have T_kit_AwaitError : kitTab K (.ref (He.ga K "AwaitError")) [("AwaitError", true), ("LineError", true), ("RuleError", true), ("TooLarge", true), ("NameFault", true), ("Barren", true), ("Unreached", true), ("SymbolError", true)] = true := (c.fb 22 (f := fb22) rfl)
  have T_u__law_fate : ∃ fd, FunD K "_law_fate" "_law_fate" (defArgs (top 37)) (defBody (top 37)) (defScope (top 37)) [] [] (He.ga K "_law_fate") fd := c.def_ 20 (d := fn20) rfl
  have T_na : noatTab K [("RuleError", "line"), ("TooLarge", "what"), ("Barren", "name"), ("Unreached", "name"), ("Grammar", "rules"), ("Grammar", "names"), ("Grammar", "signs"), ("Grammar", "start"), ("Grammar", "least"), ("Grammar", "firsts"), ("NameFault", "name")] = true := (c.fb 23 (f := fb23) rfl)
  exact ⟨T_g__law_draws, T_g__law_name, T_g__law_less, T_g__law_least, T_g__law_reached, T_g__law_sorted, T_g__law_cell, T_g__law_same, T_gk_RuleError, T_g_order, T_g_is_word, T_g_is_sign, T_g_least_words, T_g_is_name, T_g_reached_names, T_gk_Signs, T_g_leading, T_g_first_signs, T_gk_TooLarge, T_gk_Barren, T_gk_Unreached, T_g_is_rule, T_gk_Grammar, T_k_Grammar, T_mk_Grammar, T_g_parse_rule, T_g__law_lines, T_gk_NameFault, T_gk_LineError, T_gk_AwaitError, T_g__law_fate, T_n_abs, T_n_all, T_n_bool, T_n_enumerate, T_n_int, T_n_isinstance, T_n_len, T_n_list, T_n_range, T_n_sorted, T_n_str, T_n_super, T_n_tuple, T_c_LOWER, T_c_UPPER, T_c_DIGITS, T_u__law_draws, T_u__law_name, T_u__law_less, T_u__law_least, T_u__law_reached, T_u__law_sorted, T_u__law_cell, T_u__law_same, T_us_LineError, T_tp, T_sup_RuleError, T_ini_RuleError, T_u_order, T_u_is_word, T_u_is_sign, T_u_least_words, T_u_is_name, T_u_reached_names, T_cv_Signs_END, T_u_leading, T_u_first_signs, T_us_TooLarge, T_sup_TooLarge, T_ini_TooLarge, T_us_NameFault, T_sup_Barren, T_ini_Barren, T_sup_Unreached, T_ini_Unreached, T_u_is_rule, T_cv_Grammar_MOST_SYMBOLS, T_cv_Grammar_MOST_SIGNS, T_cv_Grammar_MOST_NAMES, T_cv_Grammar_MOST_RULES, T_cv_Grammar_MOST_WORD, T_u_Grammar_init, T_u_parse_rule, T_cr_Grammar, T_cm_Grammar_read, T_u_Grammar_read, T_u__law_lines, T_exm_NameFault, T_exc, T_kit_Barren, T_kit_Unreached, T_kit_LineError, T_kit_TooLarge, T_kit_AwaitError, T_u__law_fate, T_na⟩
theorem law_fd {w : World} {K : PySem.W.Frag} {h : Heap} {mg : Str → Option Value} {f : Addr} (X : K.In h) (G : h.Ns mainGlobals mg) (hfa : mg ("law" : Str) = some (.ref f)) (c : SaysE ask K) :
    ∃ fd : FuncData, (∀ (s : Shared) (v : Value), BindsTo s fd ⟨[v], []⟩ [("_law_script", v)]) ∧ ∀ base : Heap, K.In base → base.Ns mainGlobals mg → FnOk PP w K mg base (L2.CX PP w) 11 f fd ["_law_script"] (spD ⟨K, CC clsL K⟩ 1 F_law) := by
  obtain ⟨fd, U⟩ := c.def_ 21 (d := fn21) rfl
  have e := hfa.symm.trans (He.glo_ok X G (c.fact 47 (f := fa47) rfl))
  cases e
  have b := FunD.bindsA (ps := ["_law_script"]) U fun _ _ _ _ _ _ us hl => match us, hl with | [_], _ => rfl
  exact ⟨fd, fun s v => b s [v] rfl, fun base _ _ => all_law (facts X G c) U⟩
end LW.K07
open PySem PySem.W PySem.Calls PyProof.Rows
theorem PySem.Challenge.cw_awaitbook_k07_names_that_are_useless_holds : PySem.Challenge.rw_awaitbook_k07_names_that_are_useless.Holds := by
  w_on; o_law
  refine HandSHeadRun.head_any (r := OpenLaw.row PySem.Challenge.rw_awaitbook_k07_names_that_are_useless) (q := view (OpenLaw.row PySem.Challenge.rw_awaitbook_k07_names_that_are_useless).prog [38]) (H := LW.K07.hk) (ob := LW.K07.ob) (M := 20000) (loose := LW.K07.loose) (d := HandSHeadRun.topDef (OpenLaw.row PySem.Challenge.rw_awaitbook_k07_names_that_are_useless).prog 38) (kwd := []) LW.K07.ob_eq
    (by kernel_rfl) (fun s => by kernel_rfl) LW.K07.run (by kernel_rfl) (by kernel_rfl) (by kernel_rfl) (by rfl) (by first | assumption | decide +kernel) (by decide +kernel) ⟨rfl, rfl, rfl, rfl, rfl, by decide +kernel⟩ ?hw ?hc
  case hw => w_witness2
  case hc =>
    refine DL.law_end (l := PySem.Challenge.rw_awaitbook_k07_names_that_are_useless) (k := 11) (x := "_law_script") (F := LW.K07.F_law) (C := fun K => DL.CC LW.K07.clsL K) rfl (by kernel_rfl) ⟨rfl, by decide, by decide⟩ LW.K07.ev_law ?H
    intro w mg fa h Y G hmg0
    obtain ⟨K, KX, c⟩ := Y
    have hmg : mg ("law" : PySem.Str) = some (.ref fa) := by
      have e : (HandSHeadRun.topDef (OpenLaw.row PySem.Challenge.rw_awaitbook_k07_names_that_are_useless).prog 38).name = ("law" : PySem.Str) := by kernel_rfl
      rw [← e]
      exact hmg0
    obtain ⟨fd, hb, hF⟩ := LW.K07.law_fd (w := w) KX G hmg c
    exact ⟨K, fd, KX, hb, hF⟩
