import PyProof.Rows.All
import Wide.All
import OpenK.AllK
import Wide.FinOn
import KE.KStateDown
import Lean
import HandS.Base
import HandS.Call
import HandS.List
import HandS.Comp
import HandS.Iter
import HandS.Text
import HandS.Exc
import HandS.Words
import HandS.Dict
import KE.LtData
import HandS.TupAny
import HandS.Deep
import HandS.IsInst
import HandS.ExcOwn
import HandS.WordsExc
import HandS.Defaults
import HandS.HeadHook2
import HandS.HeadEnd
import PyProof.StrLaws
import KE.KExcSuper
import HandS.ExcInit
import HandS.ExcSuper
import HandS.ClsMeth
import HandS.ExcField
import HandS.ExcIs
import KE.KExcIs
import HandS.Head0
import HandS.Head1
import HandS.Head2
import HandS.More
import HandS.Style
import HandS.TryOnly
import HandS.Set
import HandS.SetFor
import HandS.SetKeys
import HandS.Strs
import HandS.TupSets
import PyProof.Rows.SortShellAny
import HandS.Star
import HandS.DictComp
import HandS.Records
import HandS.SetBool
import KE.GoesEnum
import HandS.RaiseMore
import KE.KDictDisplayH
import HandS.TryMany
import HandS.Replace
import HandS.Property
import HandS.HeadHook1
import PySem.Challenge.RW_awaitbook_k33_the_row_that_applies
import HandS.HotCalls
import HandS.SortRule
import HandS.SetIn
import HandS.OwnIter
import HandS.IterNext
import HandS.FStr
import HandS.StrMore
import PyProof.FString3
import PyProof.FString5
import PyProof.StrCalls
import HandS.TupMul
import HandS.RaiseFrom
import HandS.ExcValue
import HandS.Flow
import HandS.Finally
import HandS.DictTup
import HandS.Small
import KE.KTupTruth
import KE.KIntText
import HandS.TupLen
set_option Elab.async false
set_option linter.all false
set_option maxRecDepth 100000
set_option maxHeartbeats 0
namespace DL
open PySem PySem.Spec PyProof.Rows L2
inductive D where
  | non | bl (b : Bool) | int (i : Int) | str (x : Str)
  | tup (xs : List D) | lst (xs : List D)
  | scr (ns : List Int)
  | dct (t l : Bool) (kvs : List (D × D))
  | ins (c : Str) (fs : List (Str × D))
  | cls (c : Str)
  | ty (n : String)
instance : Inhabited D := ⟨.non⟩
structure CT where
  cls : Str → Option Addr
  ex : Option (Addr × Addr × Option Addr) := none
  slf : Option Addr := none
  so : Option (Addr → List (Addr × List Key) → HO) := none
instance : CoeFun CT fun _ => Str → Option Addr := ⟨CT.cls⟩
structure KC where
  K : PySem.W.Frag
  C : CT
def dkV : Key → D
  | .inl i => .int i
  | .inr x => .str x
def RdL (l : Bool) (G : Hp) (a : Addr) (u : HO) : Prop := if l = true then ∃ o, G a = some (.frz o u) else Rd G a u
theorem RdL.rd {l : Bool} {G : Hp} {a : Addr} {u : HO} (h : RdL l G a u) : Rd G a u := by
  unfold RdL at h
  cases l with
  | true => rw [if_pos rfl] at h; exact .inr h
  | false => rw [if_neg (by simp)] at h; exact h
theorem RdL.off {G : Hp} {a : Addr} {u : HO} (h : Rd G a u) : RdL false G a u := by unfold RdL; rw [if_neg (by simp)]; exact h
theorem RdL.on {G : Hp} {a : Addr} {u : HO} {o : Obj} (h : G a = some (.frz o u)) : RdL true G a u := by unfold RdL; rw [if_pos rfl]; exact ⟨o, h⟩
theorem RdL.lk {G : Hp} {a : Addr} {u : HO} (h : RdL true G a u) : ∃ o, G a = some (.frz o u) := by unfold RdL at h; rw [if_pos rfl] at h; exact h
mutual
inductive Rep (K : KC) (G : Hp) : V → D → Prop
  | non : Rep K G .non .non
  | bl (b : Bool) : Rep K G (.bl b) (.bl b)
  | int (i : Int) : Rep K G (.int i) (.int i)
  | str (x : Str) : Rep K G (.str x) (.str x)
  | ty (n : String) : Rep K G (.ty n) (.ty n)
  | cls {c : Str} {a : Addr} : K.C c = some a → Rep K G (.ref a) (.cls c)
  | tup {a : Addr} {vs : List V} {ds : List D} : G a = some (.tup vs) → Reps K G vs ds → Rep K G (.ref a) (.tup ds)
  | lst {a : Addr} {vs : List V} {ds : List D} : G a = some (.lst vs) → Reps K G vs ds → Rep K G (.ref a) (.lst ds)
  | scr {a : Addr} {ns : List Int} : SqL K.K G a (ns.map V.int) → Rep K G (.ref a) (.scr ns)
  | dk {l : Bool} {a : Addr} {kvs : List (Key × V)} {ds : List (D × D)} : RdL l G a (.dK kvs) → RepK K G kvs ds → Rep K G (.ref a) (.dct false l ds)
  | dt {l : Bool} {a : Addr} {kvs : List (List Key × V)} {ds : List (D × D)} : RdL l G a (.dT kvs) → RepT K G kvs ds → Rep K G (.ref a) (.dct true l ds)
  | ins {a dx C : Addr} {c : Str} {fs : List (Str × V)} {ds : List (Str × D)} : K.C c = some C → G a = some (.ins C dx fs) → RepF K G fs ds → Rep K G (.ref a) (.ins c ds)
inductive Reps (K : KC) (G : Hp) : List V → List D → Prop
  | nil : Reps K G [] []
  | cons {v : V} {vs : List V} {d : D} {ds : List D} : Rep K G v d → Reps K G vs ds → Reps K G (v :: vs) (d :: ds)
inductive RepF (K : KC) (G : Hp) : List (Str × V) → List (Str × D) → Prop
  | nil : RepF K G [] []
  | cons {f : Str} {v : V} {vs : List (Str × V)} {d : D} {ds : List (Str × D)} : Rep K G v d → RepF K G vs ds → RepF K G ((f, v) :: vs) ((f, d) :: ds)
inductive RepK (K : KC) (G : Hp) : List (Key × V) → List (D × D) → Prop
  | nil : RepK K G [] []
  | cons {k : Key} {v : V} {vs : List (Key × V)} {d : D} {ds : List (D × D)} : Rep K G v d → RepK K G vs ds → RepK K G ((k, v) :: vs) ((dkV k, d) :: ds)
inductive RepT (K : KC) (G : Hp) : List (List Key × V) → List (D × D) → Prop
  | nil : RepT K G [] []
  | cons {k : List Key} {v : V} {vs : List (List Key × V)} {d : D} {ds : List (D × D)} : Rep K G v d → RepT K G vs ds → RepT K G ((k, v) :: vs) ((.tup (k.map dkV), d) :: ds)
end
def Sub (G H : Hp) : Prop := ∀ a o, G a = some o → H a = some o
theorem Sub.refl {G : Hp} : Sub G G := fun _ _ h => h
theorem Sub.trans {A B C : Hp} (h : Sub A B) (k : Sub B C) : Sub A C := fun a o e => k a o (h a o e)
theorem Sub.none {A B : Hp} (h : Sub A B) {a : Addr} (e : B a = none) : A a = none := by
  cases q : A a with
  | none => rfl
  | some o => rw [h a o q] at e; cases e
theorem Sub.rd {A B : Hp} (h : Sub A B) {a : Addr} {u : HO} (r : Rd A a u) : Rd B a u := r.elim (fun z => .inl (h _ _ z)) fun ⟨o, z⟩ => .inr ⟨o, h _ _ z⟩
theorem Sub.rdl {A B : Hp} (h : Sub A B) {l : Bool} {a : Addr} {u : HO} (r : RdL l A a u) : RdL l B a u := by
  cases l with
  | true => obtain ⟨o, e⟩ := r.lk; exact .on (h _ _ e)
  | false => exact .off (h.rd r.rd)
theorem Sub.sqT {K : PySem.W.Frag} {A B : Hp} (h : Sub A B) {a : Addr} {vs : List V} (r : SqT K A a vs) : SqT K B a vs := r.elim (fun z => .inl (h.rd z)) .inr
theorem Sub.sqL {K : PySem.W.Frag} {A B : Hp} (h : Sub A B) {a : Addr} {vs : List V} (r : SqL K A a vs) : SqL K B a vs := r.elim (fun z => .inl (h.rd z)) .inr
theorem Sub.upd {G : Hp} {p : Addr} {o : HO} (h : G p = Option.none) : Sub G (L2.upd G p o) := fun a u e => by
  rw [upd_ne (ne_of_none e h)]; exact e
theorem Sub.upd2 {G H : Hp} {p : Addr} {o : HO} (h : Sub G H) (e : H p = some o) : Sub (L2.upd G p o) H := fun a u q => by
  by_cases z : a = p
  · subst z; rw [upd_same] at q; cases q; exact e
  · rw [upd_ne z] at q; exact h a u q
theorem Sub.updR {G H : Hp} {p : Addr} {o : HO} (h : Sub G H) (e : G p = Option.none) : Sub G (L2.upd H p o) := fun a u q => by
  rw [upd_ne (ne_of_none q e)]; exact h a u q
section
variable {K : KC} {G G' : Hp}
mutual
theorem Rep.mono (h : Sub G G') : ∀ {v : V} {d : D}, Rep K G v d → Rep K G' v d
  | _, _, .non => .non
  | _, _, .bl b => .bl b
  | _, _, .int i => .int i
  | _, _, .str x => .str x
  | _, _, .ty n => .ty n
  | _, _, .cls e => .cls e
  | _, _, .tup s r => .tup (h _ _ s) (Reps.mono h r)
  | _, _, .lst s r => .lst (h _ _ s) (Reps.mono h r)
  | _, _, .scr s => .scr (h.sqL s)
  | _, _, .dk s r => .dk (h.rdl s) (RepK.mono h r)
  | _, _, .dt s r => .dt (h.rdl s) (RepT.mono h r)
  | _, _, .ins c s r => .ins c (h _ _ s) (RepF.mono h r)
theorem Reps.mono (h : Sub G G') : ∀ {v : List V} {d : List D}, Reps K G v d → Reps K G' v d
  | _, _, .nil => .nil
  | _, _, .cons a b => .cons (Rep.mono h a) (Reps.mono h b)
theorem RepF.mono (h : Sub G G') : ∀ {v : List (Str × V)} {d : List (Str × D)}, RepF K G v d → RepF K G' v d
  | _, _, .nil => .nil
  | _, _, .cons a b => .cons (Rep.mono h a) (RepF.mono h b)
theorem RepK.mono (h : Sub G G') : ∀ {v : List (Key × V)} {d : List (D × D)}, RepK K G v d → RepK K G' v d
  | _, _, .nil => .nil
  | _, _, .cons a b => .cons (Rep.mono h a) (RepK.mono h b)
theorem RepT.mono (h : Sub G G') : ∀ {v : List (List Key × V)} {d : List (D × D)}, RepT K G v d → RepT K G' v d
  | _, _, .nil => .nil
  | _, _, .cons a b => .cons (Rep.mono h a) (RepT.mono h b)
end
theorem Reps.length : ∀ {vs : List V} {ds : List D}, Reps K G vs ds → vs.length = ds.length
  | _, _, .nil => rfl
  | _, _, .cons _ b => congrArg Nat.succ b.length
theorem Reps.get : ∀ {vs : List V} {ds : List D} {i : Nat} {d : D}, Reps K G vs ds → ds[i]? = some d → ∃ v, vs[i]? = some v ∧ Rep K G v d
  | _, _, _, _, .nil, e => by simp at e
  | _, _, 0, _, .cons a _, e => by simp at e; subst e; exact ⟨_, rfl, a⟩
  | _, _, i + 1, _, .cons _ b, e => by
    obtain ⟨v, h1, h2⟩ := Reps.get (i := i) b (by simpa using e)
    exact ⟨v, by simpa using h1, h2⟩
theorem Reps.append : ∀ {vs us : List V} {ds es : List D}, Reps K G vs ds → Reps K G us es → Reps K G (vs ++ us) (ds ++ es)
  | _, _, _, _, .nil, s => s
  | _, _, _, _, .cons a b, s => .cons a (b.append s)
theorem Reps.take : ∀ {vs : List V} {ds : List D} (n : Nat), Reps K G vs ds → Reps K G (vs.take n) (ds.take n)
  | _, _, 0, _ => .nil
  | _, _, _ + 1, .nil => .nil
  | _, _, n + 1, .cons a b => .cons a (b.take n)
theorem Reps.drop : ∀ {vs : List V} {ds : List D} (n : Nat), Reps K G vs ds → Reps K G (vs.drop n) (ds.drop n)
  | _, _, 0, r => r
  | _, _, _ + 1, .nil => .nil
  | _, _, n + 1, .cons _ b => b.drop n
theorem Reps.reverse {vs : List V} {ds : List D} (h : Reps K G vs ds) : Reps K G vs.reverse ds.reverse := by
  induction h using Reps.rec (motive_1 := fun _ _ _ => True) (motive_3 := fun _ _ _ => True) (motive_4 := fun _ _ _ => True) (motive_5 := fun _ _ _ => True) with
  | nil => exact .nil
  | cons a b _ ih => rw [List.reverse_cons, List.reverse_cons]; exact ih.append (.cons a .nil)
  | _ => trivial
theorem Reps.ints : ∀ (ns : List Int), Reps K G (ns.map V.int) (ns.map D.int)
  | [] => .nil
  | _ :: r => .cons (.int _) (Reps.ints r)
theorem Reps.of_strs : ∀ {ns : List Str} {vs : List V}, Reps K G vs (ns.map D.str) → vs = ns.map V.str
  | [], _, .nil => rfl
  | _ :: _, _, .cons a b => by cases a; rw [Reps.of_strs b]; rfl
theorem Reps.of_bls : ∀ {ns : List Bool} {vs : List V}, Reps K G vs (ns.map D.bl) → vs = ns.map V.bl
  | [], _, .nil => rfl
  | _ :: _, _, .cons a b => by cases a; rw [Reps.of_bls b]; rfl
theorem Reps.strs : ∀ (ns : List Str), Reps K G (ns.map V.str) (ns.map D.str)
  | [] => .nil
  | _ :: r => .cons (.str _) (Reps.strs r)
theorem Reps.set : ∀ {vs : List V} {ds : List D} {v : V} {d : D} (i : Nat), Rep K G v d → Reps K G vs ds → Reps K G (vs.set i v) (ds.set i d)
  | _, _, _, _, _, _, .nil => .nil
  | _, _, _, _, 0, r, .cons _ b => .cons r b
  | _, _, _, _, i + 1, r, .cons a b => .cons a (Reps.set i r b)
theorem RepF.look : ∀ {vs : List (Str × V)} {ds : List (Str × D)} {f : Str} {d : D}, RepF K G vs ds → ds.lookup f = some d → ∃ v, vs.lookup f = some v ∧ Rep K G v d
  | _, _, _, _, .nil, e => by simp at e
  | (g, v) :: _, (_, d') :: _, f, d, .cons a b, e => by
    rw [List.lookup_cons] at e ⊢
    cases q : (f == g) with
    | true => rw [q] at e; cases e; exact ⟨_, rfl, a⟩
    | false => rw [q] at e; exact RepF.look b e
theorem RepF.look_none : ∀ {vs : List (Str × V)} {ds : List (Str × D)} {f : Str}, RepF K G vs ds → ds.lookup f = none → vs.lookup f = none
  | _, _, _, .nil, _ => rfl
  | (g, v) :: _, (_, d') :: _, f, .cons a b, e => by
    rw [List.lookup_cons] at e ⊢
    cases q : (f == g) with
    | true => rw [q] at e; cases e
    | false => rw [q] at e; exact RepF.look_none b e
end
structure Exn where
  cls : Str
  fs : List (Str × D)
inductive Rz (α : Type) where
  | ok (a : α) | exc (e : Exn) | stuck
namespace Rz
variable {α β γ : Type}
def bind (x : Rz α) (f : α → Rz β) : Rz β := match x with
  | .ok a => f a
  | .exc e => .exc e
  | .stuck => .stuck
instance : Monad Rz := { pure := .ok, bind := bind }
@[simp] theorem pure_eq (a : α) : (pure a : Rz α) = .ok a := rfl
@[simp] theorem ok_bind (a : α) (f : α → Rz β) : ((Rz.ok a) >>= f) = f a := rfl
@[simp] theorem exc_bind (e : Exn) (f : α → Rz β) : ((Rz.exc e : Rz α) >>= f) = .exc e := rfl
@[simp] theorem stuck_bind (f : α → Rz β) : ((Rz.stuck : Rz α) >>= f) = .stuck := rfl
end Rz
def orStuck {α : Type} : Option α → Rz α
  | some a => .ok a
  | none => .stuck
@[simp] theorem orStuck_some {α : Type} (a : α) : orStuck (some a) = .ok a := rfl
inductive OW where
  | lst (ds : List D)
  | dct (t : Bool) (kvs : List (D × D))
  | ins (c : Str) (fs : List (Str × D))
  | self (c : Str) (fs : List (Str × D))
  | wlk (ds : List D)
inductive T where
  | leaf (d : D)
  | tup (xs : List T)
  | lst (xs : List T)
  | dct (t l : Bool) (kvs : List (D × T))
  | ins (c : Str) (fs : List (Str × T))
instance : Inhabited T := ⟨.leaf .non⟩
inductive SL where
  | no | val (d : D) | own (w : OW) | exn (e : Exn) | tre (s : Bool) (t : T) | sts (ks : List (List Key))
abbrev Env := List SL
instance : Inhabited SL := ⟨.no⟩
inductive EV where
  | fz (d : D) | ow (new : Bool) (w : OW)
def OW.d : OW → D
  | .lst ds => .lst ds
  | .dct t kvs => .dct t false kvs
  | .ins c fs => .ins c fs
  | .self c fs => .ins c fs
  | .wlk ds => .lst ds
@[simp] theorem OW.d_wlk (ds : List D) : (OW.wlk ds).d = .lst ds := rfl
@[simp] theorem OW.d_self (c : Str) (fs : List (Str × D)) : (OW.self c fs).d = .ins c fs := rfl
@[simp] theorem OW.d_ins (c : Str) (fs : List (Str × D)) : (OW.ins c fs).d = .ins c fs := rfl
@[simp] theorem OW.d_lst (ds : List D) : (OW.lst ds).d = .lst ds := rfl
@[simp] theorem OW.d_dct (t : Bool) (ds : List (D × D)) : (OW.dct t ds).d = .dct t false ds := rfl
def EV.d : EV → D
  | .fz d => d
  | .ow _ w => w.d
@[simp] theorem EV.d_fz (d : D) : (EV.fz d).d = d := rfl
@[simp] theorem EV.d_ow (n : Bool) (w : OW) : (EV.ow n w).d = w.d := rfl
def WOk (K : KC) (G H : Hp) (p : Addr) : OW → Prop
  | .lst ds => ∃ vs, H p = some (.lst vs) ∧ Reps K G vs ds
  | .dct false ds => ∃ kvs, H p = some (.dK kvs) ∧ RepK K G kvs ds
  | .dct true ds => ∃ kvs, H p = some (.dT kvs) ∧ RepT K G kvs ds
  | .ins c ds => ∃ Ca dx vs, K.C.cls c = some Ca ∧ H p = some (.ins Ca dx vs) ∧ RepF K G vs ds
  | .self c ds => K.C.slf = some p ∧ ∃ Ca dx vs, K.C.cls c = some Ca ∧ H p = some (.ins Ca dx vs) ∧ RepF K G vs ds
  | .wlk ds => K.C.slf = some p ∧ ∃ vs, H p = some (.lst vs) ∧ Reps K G vs ds
theorem WOk.mono {K : KC} {G G' H H' : Hp} {p : Addr} {w : OW} (h : Sub G G') (k : ∀ o, H p = some o → H' p = some o) (x : WOk K G H p w) : WOk K G' H' p w := by
  cases w with
  | lst ds => obtain ⟨vs, e, r⟩ := x; exact ⟨vs, k _ e, r.mono h⟩
  | dct t ds =>
    cases t with
    | false => obtain ⟨vs, e, r⟩ := x; exact ⟨vs, k _ e, r.mono h⟩
    | true => obtain ⟨vs, e, r⟩ := x; exact ⟨vs, k _ e, r.mono h⟩
  | ins c ds => obtain ⟨Ca, dx, vs, q, e, r⟩ := x; exact ⟨Ca, dx, vs, q, k _ e, r.mono h⟩
  | self c ds => obtain ⟨z, Ca, dx, vs, q, e, r⟩ := x; exact ⟨z, Ca, dx, vs, q, k _ e, r.mono h⟩
  | wlk ds => obtain ⟨z, vs, e, r⟩ := x; exact ⟨z, vs, k _ e, r.mono h⟩
def noTup : HO → Bool
  | .tup _ => false
  | .xd _ => false
  | .frz _ (.tup _) => false
  | _ => true
def NT (H : Hp) (a : Addr) : Prop := ∃ o, H a = .some o ∧ noTup o = true
theorem NT.mono {H H' : Hp} {a : Addr} (s : Sub H H') (h : NT H a) : NT H' a := let ⟨o, e, k⟩ := h; ⟨o, s a o e, k⟩
theorem NT.no {H : Hp} {a : Addr} (h : NT H a) (e : H a = none) : False := by
  obtain ⟨o, k, _⟩ := h
  rw [e] at k; cases k
theorem WOk.nt {K : KC} {G H : Hp} {p : Addr} {w : OW} (x : WOk K G H p w) : NT H p := by
  cases w with
  | lst ds => obtain ⟨vs, e, r⟩ := x; exact ⟨_, e, rfl⟩
  | dct t ds =>
    cases t with
    | false => obtain ⟨vs, e, r⟩ := x; exact ⟨_, e, rfl⟩
    | true => obtain ⟨vs, e, r⟩ := x; exact ⟨_, e, rfl⟩
  | ins c ds => obtain ⟨Ca, dx, vs, q, e, r⟩ := x; exact ⟨_, e, rfl⟩
  | self c ds => obtain ⟨z, Ca, dx, vs, q, e, r⟩ := x; exact ⟨_, e, rfl⟩
  | wlk ds => obtain ⟨z, vs, e, r⟩ := x; exact ⟨_, e, rfl⟩
def RdX (l : Bool) (H : Hp) (a : Addr) (u : HO) : Prop := if l = true then ∃ o, H a = some (.frz o u) else H a = some u
theorem RdX.off {H : Hp} {a : Addr} {u : HO} (h : H a = some u) : RdX false H a u := h
theorem RdX.o {H : Hp} {a : Addr} {u : HO} (h : RdX false H a u) : H a = some u := h
theorem RdX.lk {H : Hp} {a : Addr} {u : HO} (h : RdX true H a u) : ∃ o, H a = some (.frz o u) := h
theorem RdX.keep {l : Bool} {H H' : Hp} {a : Addr} {u : HO} (h : RdX l H a u) (k : ∀ o, H a = some o → H' a = some o) : RdX l H' a u := by
  cases l with
  | false => exact k _ h.o
  | true => obtain ⟨o, e⟩ := h.lk; exact ⟨o, k _ e⟩
theorem RdX.uniqK {l : Bool} {H : Hp} {a : Addr} {u v : List (Key × V)} (h : RdX l H a (.dK u)) (k : RdX l H a (.dK v)) : u = v := by
  cases l with
  | false => have := h.o.symm.trans k.o; cases this; rfl
  | true => obtain ⟨o, e⟩ := h.lk; obtain ⟨o', e'⟩ := k.lk; rw [e] at e'; cases e'; rfl
theorem RdX.uniqT {l : Bool} {H : Hp} {a : Addr} {u v : List (List Key × V)} (h : RdX l H a (.dT u)) (k : RdX l H a (.dT v)) : u = v := by
  cases l with
  | false => have := h.o.symm.trans k.o; cases this; rfl
  | true => obtain ⟨o, e⟩ := h.lk; obtain ⟨o', e'⟩ := k.lk; rw [e] at e'; cases e'; rfl
theorem RdX.ntK {l : Bool} {H : Hp} {a : Addr} {u : List (Key × V)} (h : RdX l H a (.dK u)) : NT H a := by
  cases l with
  | false => exact ⟨_, h.o, rfl⟩
  | true => obtain ⟨o, e⟩ := h.lk; exact ⟨_, e, rfl⟩
theorem RdX.ntT {l : Bool} {H : Hp} {a : Addr} {u : List (List Key × V)} (h : RdX l H a (.dT u)) : NT H a := by
  cases l with
  | false => exact ⟨_, h.o, rfl⟩
  | true => obtain ⟨o, e⟩ := h.lk; exact ⟨_, e, rfl⟩
theorem RdX.rdl {l : Bool} {H G : Hp} {a : Addr} {u : HO} (h : RdX l H a u) (k : ∀ o, H a = some o → G a = some o) : RdL l G a u := by
  cases l with
  | false => exact .off (.of (k _ h.o))
  | true => obtain ⟨o, e⟩ := h.lk; exact .on (k _ e)
mutual
inductive TRep (K : KC) (G H : Hp) : V → T → List Addr → Prop
  | leaf {v : V} {d : D} : Rep K G v d → TRep K G H v (.leaf d) []
  | tup {a : Addr} {vs : List V} {ts : List T} {F : List Addr} : H a = some (.tup vs) → TReps K G H vs ts F → TRep K G H (.ref a) (.tup ts) F
  | lst {a : Addr} {vs : List V} {ts : List T} {F : List Addr} : H a = some (.lst vs) → TReps K G H vs ts F → TRep K G H (.ref a) (.lst ts) (a :: F)
  | dk {l : Bool} {a : Addr} {vs : List (Key × V)} {ts : List (D × T)} {F : List Addr} : RdX l H a (.dK vs) → TRepK K G H vs ts F → TRep K G H (.ref a) (.dct false l ts) (a :: F)
  | dt {l : Bool} {a : Addr} {vs : List (List Key × V)} {ts : List (D × T)} {F : List Addr} : RdX l H a (.dT vs) → TRepT K G H vs ts F → TRep K G H (.ref a) (.dct true l ts) (a :: F)
  | ins {a dx C : Addr} {c : Str} {vs : List (Str × V)} {ts : List (Str × T)} {F : List Addr} : K.C.cls c = some C → H a = some (.ins C dx vs) → TRepF K G H vs ts F → TRep K G H (.ref a) (.ins c ts) (a :: F)
inductive TReps (K : KC) (G H : Hp) : List V → List T → List Addr → Prop
  | nil : TReps K G H [] [] []
  | cons {v : V} {vs : List V} {t : T} {ts : List T} {F1 F2 : List Addr} : TRep K G H v t F1 → TReps K G H vs ts F2 → TReps K G H (v :: vs) (t :: ts) (F1 ++ F2)
inductive TRepF (K : KC) (G H : Hp) : List (Str × V) → List (Str × T) → List Addr → Prop
  | nil : TRepF K G H [] [] []
  | cons {f : Str} {v : V} {vs : List (Str × V)} {t : T} {ts : List (Str × T)} {F1 F2 : List Addr} : TRep K G H v t F1 → TRepF K G H vs ts F2 → TRepF K G H ((f, v) :: vs) ((f, t) :: ts) (F1 ++ F2)
inductive TRepK (K : KC) (G H : Hp) : List (Key × V) → List (D × T) → List Addr → Prop
  | nil : TRepK K G H [] [] []
  | cons {k : Key} {v : V} {vs : List (Key × V)} {t : T} {ts : List (D × T)} {F1 F2 : List Addr} : TRep K G H v t F1 → TRepK K G H vs ts F2 → TRepK K G H ((k, v) :: vs) ((dkV k, t) :: ts) (F1 ++ F2)
inductive TRepT (K : KC) (G H : Hp) : List (List Key × V) → List (D × T) → List Addr → Prop
  | nil : TRepT K G H [] [] []
  | cons {k : List Key} {v : V} {vs : List (List Key × V)} {t : T} {ts : List (D × T)} {F1 F2 : List Addr} : TRep K G H v t F1 → TRepT K G H vs ts F2 → TRepT K G H ((k, v) :: vs) ((.tup (k.map dkV), t) :: ts) (F1 ++ F2)
end
mutual
def T.d : T → D
  | .leaf d => d
  | .tup ts => .tup (dTs ts)
  | .lst ts => .lst (dTs ts)
  | .dct t l ts => .dct t l (dTk ts)
  | .ins c ts => .ins c (dTf ts)
def dTs : List T → List D
  | [] => []
  | t :: ts => t.d :: dTs ts
def dTk : List (D × T) → List (D × D)
  | [] => []
  | (k, t) :: ts => (k, t.d) :: dTk ts
def dTf : List (Str × T) → List (Str × D)
  | [] => []
  | (k, t) :: ts => (k, t.d) :: dTf ts
end
section
variable {K K' : KC} {G G' H H' : Hp}
mutual
theorem TRep.uniq : ∀ {v : V} {t : T} {F F' : List Addr}, TRep K G H v t F → TRep K' G' H v t F' → F = F'
  | _, _, _, _, .leaf _, .leaf _ => rfl
  | _, _, _, _, .tup a b, .tup c d => by rw [a] at c; cases c; exact TReps.uniq b d
  | _, _, _, _, .lst a b, .lst c d => by rw [a] at c; cases c; rw [TReps.uniq b d]
  | _, _, _, _, .dk a b, .dk c d => by have e := a.uniqK c; subst e; rw [TRepK.uniq b d]
  | _, _, _, _, .dt a b, .dt c d => by have e := a.uniqT c; subst e; rw [TRepT.uniq b d]
  | _, _, _, _, .ins _ a b, .ins _ c d => by rw [a] at c; cases c; rw [TRepF.uniq b d]
theorem TReps.uniq : ∀ {v : List V} {t : List T} {F F' : List Addr}, TReps K G H v t F → TReps K' G' H v t F' → F = F'
  | _, _, _, _, .nil, .nil => rfl
  | _, _, _, _, .cons a b, .cons c d => by rw [TRep.uniq a c, TReps.uniq b d]
theorem TRepF.uniq : ∀ {v : List (Str × V)} {t : List (Str × T)} {F F' : List Addr}, TRepF K G H v t F → TRepF K' G' H v t F' → F = F'
  | _, _, _, _, .nil, .nil => rfl
  | _, _, _, _, .cons a b, .cons c d => by rw [TRep.uniq a c, TRepF.uniq b d]
theorem TRepK.uniq : ∀ {v : List (Key × V)} {t : List (D × T)} {F F' : List Addr}, TRepK K G H v t F → TRepK K' G' H v t F' → F = F'
  | _, _, _, _, .nil, s => by cases s; rfl
  | _, _, _, _, .cons a b, s => by
    cases s with
    | cons c d => rw [TRep.uniq a c, TRepK.uniq b d]
theorem TRepT.uniq : ∀ {v : List (List Key × V)} {t : List (D × T)} {F F' : List Addr}, TRepT K G H v t F → TRepT K' G' H v t F' → F = F'
  | _, _, _, _, .nil, s => by cases s; rfl
  | _, _, _, _, .cons a b, s => by
    cases s with
    | cons c d => rw [TRep.uniq a c, TRepT.uniq b d]
end
def TupS (H H' : Hp) : Prop := ∀ a vs, H a = some (.tup vs) → H' a = some (.tup vs)
theorem Sub.tupS (s : Sub H H') : TupS H H' := fun a vs e => s a _ e
theorem TupS.refl : TupS H H := fun _ _ e => e
theorem TupS.put {p : Addr} {o : HO} (n : NT H p) : TupS H (L2.upd H p o) := fun a vs e => by
  have : a ≠ p := fun z => by subst z; obtain ⟨o', e', k⟩ := n; rw [e] at e'; cases e'; cases k
  rw [upd_ne this]; exact e
theorem TupS.putN {p : Addr} {o : HO} (n : H p = none) : TupS H (L2.upd H p o) := (Sub.upd n).tupS
mutual
theorem TRep.mono (g : Sub G G') (tp : TupS H H') : ∀ {v : V} {t : T} {F : List Addr}, TRep K G H v t F → (∀ a ∈ F, ∀ o, H a = some o → H' a = some o) → TRep K G' H' v t F
  | _, _, _, .leaf r, k => .leaf (r.mono g)
  | _, _, _, .tup a b, k => .tup (tp _ _ a) (TReps.mono g tp b k)
  | _, _, _, .lst a b, k => .lst (k _ (.head _) _ a) (TReps.mono g tp b fun a m => k a (.tail _ m))
  | _, _, _, .dk a b, k => .dk (a.keep (k _ (.head _))) (TRepK.mono g tp b fun a m => k a (.tail _ m))
  | _, _, _, .dt a b, k => .dt (a.keep (k _ (.head _))) (TRepT.mono g tp b fun a m => k a (.tail _ m))
  | _, _, _, .ins q a b, k => .ins q (k _ (.head _) _ a) (TRepF.mono g tp b fun a m => k a (.tail _ m))
theorem TReps.mono (g : Sub G G') (tp : TupS H H') : ∀ {v : List V} {t : List T} {F : List Addr}, TReps K G H v t F → (∀ a ∈ F, ∀ o, H a = some o → H' a = some o) → TReps K G' H' v t F
  | _, _, _, .nil, _ => .nil
  | _, _, _, .cons a b, k => .cons (TRep.mono g tp a fun a m => k a (List.mem_append_left _ m)) (TReps.mono g tp b fun a m => k a (List.mem_append_right _ m))
theorem TRepF.mono (g : Sub G G') (tp : TupS H H') : ∀ {v : List (Str × V)} {t : List (Str × T)} {F : List Addr}, TRepF K G H v t F → (∀ a ∈ F, ∀ o, H a = some o → H' a = some o) → TRepF K G' H' v t F
  | _, _, _, .nil, _ => .nil
  | _, _, _, .cons a b, k => .cons (TRep.mono g tp a fun a m => k a (List.mem_append_left _ m)) (TRepF.mono g tp b fun a m => k a (List.mem_append_right _ m))
theorem TRepK.mono (g : Sub G G') (tp : TupS H H') : ∀ {v : List (Key × V)} {t : List (D × T)} {F : List Addr}, TRepK K G H v t F → (∀ a ∈ F, ∀ o, H a = some o → H' a = some o) → TRepK K G' H' v t F
  | _, _, _, .nil, _ => .nil
  | _, _, _, .cons a b, k => .cons (TRep.mono g tp a fun a m => k a (List.mem_append_left _ m)) (TRepK.mono g tp b fun a m => k a (List.mem_append_right _ m))
theorem TRepT.mono (g : Sub G G') (tp : TupS H H') : ∀ {v : List (List Key × V)} {t : List (D × T)} {F : List Addr}, TRepT K G H v t F → (∀ a ∈ F, ∀ o, H a = some o → H' a = some o) → TRepT K G' H' v t F
  | _, _, _, .nil, _ => .nil
  | _, _, _, .cons a b, k => .cons (TRep.mono g tp a fun a m => k a (List.mem_append_left _ m)) (TRepT.mono g tp b fun a m => k a (List.mem_append_right _ m))
end
mutual
theorem TRep.nt : ∀ {v : V} {t : T} {F : List Addr}, TRep K G H v t F → ∀ a ∈ F, NT H a
  | _, _, _, .leaf _, a, m => by cases m
  | _, _, _, .tup _ b, a, m => TReps.nt b a m
  | _, _, _, .lst e b, a, m => by
    rcases List.mem_cons.mp m with rfl | m
    · exact ⟨_, e, rfl⟩
    · exact TReps.nt b a m
  | _, _, _, .dk e b, a, m => by
    rcases List.mem_cons.mp m with rfl | m
    · exact e.ntK
    · exact TRepK.nt b a m
  | _, _, _, .dt e b, a, m => by
    rcases List.mem_cons.mp m with rfl | m
    · exact e.ntT
    · exact TRepT.nt b a m
  | _, _, _, .ins _ e b, a, m => by
    rcases List.mem_cons.mp m with rfl | m
    · exact ⟨_, e, rfl⟩
    · exact TRepF.nt b a m
theorem TReps.nt : ∀ {v : List V} {t : List T} {F : List Addr}, TReps K G H v t F → ∀ a ∈ F, NT H a
  | _, _, _, .nil, a, m => by cases m
  | _, _, _, .cons x y, a, m => (List.mem_append.mp m).elim (TRep.nt x a) (TReps.nt y a)
theorem TRepF.nt : ∀ {v : List (Str × V)} {t : List (Str × T)} {F : List Addr}, TRepF K G H v t F → ∀ a ∈ F, NT H a
  | _, _, _, .nil, a, m => by cases m
  | _, _, _, .cons x y, a, m => (List.mem_append.mp m).elim (TRep.nt x a) (TRepF.nt y a)
theorem TRepK.nt : ∀ {v : List (Key × V)} {t : List (D × T)} {F : List Addr}, TRepK K G H v t F → ∀ a ∈ F, NT H a
  | _, _, _, .nil, a, m => by cases m
  | _, _, _, .cons x y, a, m => (List.mem_append.mp m).elim (TRep.nt x a) (TRepK.nt y a)
theorem TRepT.nt : ∀ {v : List (List Key × V)} {t : List (D × T)} {F : List Addr}, TRepT K G H v t F → ∀ a ∈ F, NT H a
  | _, _, _, .nil, a, m => by cases m
  | _, _, _, .cons x y, a, m => (List.mem_append.mp m).elim (TRep.nt x a) (TRepT.nt y a)
end
mutual
theorem TRep.rep (s : Sub G G') (tp : TupS H G') : ∀ {v : V} {t : T} {F : List Addr}, TRep K G H v t F → (∀ a ∈ F, ∀ o, H a = some o → G' a = some o) → Rep K G' v t.d
  | _, _, _, .leaf r, k => by rw [T.d]; exact r.mono s
  | _, _, _, .tup a b, k => by rw [T.d]; exact .tup (tp _ _ a) (TReps.rep s tp b k)
  | _, _, _, .lst a b, k => by rw [T.d]; exact .lst (k _ (.head _) _ a) (TReps.rep s tp b fun a m => k a (.tail _ m))
  | _, _, _, .dk a b, k => by rw [T.d]; exact .dk (a.rdl (k _ (.head _))) (TRepK.rep s tp b fun a m => k a (.tail _ m))
  | _, _, _, .dt a b, k => by rw [T.d]; exact .dt (a.rdl (k _ (.head _))) (TRepT.rep s tp b fun a m => k a (.tail _ m))
  | _, _, _, .ins q a b, k => by rw [T.d]; exact .ins q (k _ (.head _) _ a) (TRepF.rep s tp b fun a m => k a (.tail _ m))
theorem TReps.rep (s : Sub G G') (tp : TupS H G') : ∀ {v : List V} {t : List T} {F : List Addr}, TReps K G H v t F → (∀ a ∈ F, ∀ o, H a = some o → G' a = some o) → Reps K G' v (dTs t)
  | _, _, _, .nil, k => by rw [dTs]; exact .nil
  | _, _, _, .cons a b, k => by rw [dTs]; exact .cons (TRep.rep s tp a fun a m => k a (List.mem_append_left _ m)) (TReps.rep s tp b fun a m => k a (List.mem_append_right _ m))
theorem TRepF.rep (s : Sub G G') (tp : TupS H G') : ∀ {v : List (Str × V)} {t : List (Str × T)} {F : List Addr}, TRepF K G H v t F → (∀ a ∈ F, ∀ o, H a = some o → G' a = some o) → RepF K G' v (dTf t)
  | _, _, _, .nil, k => by rw [dTf]; exact .nil
  | _, _, _, .cons a b, k => by rw [dTf]; exact .cons (TRep.rep s tp a fun a m => k a (List.mem_append_left _ m)) (TRepF.rep s tp b fun a m => k a (List.mem_append_right _ m))
theorem TRepK.rep (s : Sub G G') (tp : TupS H G') : ∀ {v : List (Key × V)} {t : List (D × T)} {F : List Addr}, TRepK K G H v t F → (∀ a ∈ F, ∀ o, H a = some o → G' a = some o) → RepK K G' v (dTk t)
  | _, _, _, .nil, k => by rw [dTk]; exact .nil
  | _, _, _, .cons a b, k => by rw [dTk]; exact .cons (TRep.rep s tp a fun a m => k a (List.mem_append_left _ m)) (TRepK.rep s tp b fun a m => k a (List.mem_append_right _ m))
theorem TRepT.rep (s : Sub G G') (tp : TupS H G') : ∀ {v : List (List Key × V)} {t : List (D × T)} {F : List Addr}, TRepT K G H v t F → (∀ a ∈ F, ∀ o, H a = some o → G' a = some o) → RepT K G' v (dTk t)
  | _, _, _, .nil, k => by rw [dTk]; exact .nil
  | _, _, _, .cons a b, k => by rw [dTk]; exact .cons (TRep.rep s tp a fun a m => k a (List.mem_append_left _ m)) (TRepT.rep s tp b fun a m => k a (List.mem_append_right _ m))
end
end
theorem WOk.rep {K : KC} {G H : Hp} {p : Addr} {w : OW} (h : Sub G H) (x : WOk K G H p w) : Rep K H (.ref p) w.d := by
  cases w with
  | lst ds => obtain ⟨vs, e, r⟩ := x; exact .lst e (r.mono h)
  | dct t ds =>
    cases t with
    | false => obtain ⟨vs, e, r⟩ := x; exact .dk (.off (.of e)) (r.mono h)
    | true => obtain ⟨vs, e, r⟩ := x; exact .dt (.off (.of e)) (r.mono h)
  | ins c ds => obtain ⟨Ca, dx, vs, q, e, r⟩ := x; exact .ins q e (r.mono h)
  | self c ds => obtain ⟨z, Ca, dx, vs, q, e, r⟩ := x; exact .ins q e (r.mono h)
  | wlk ds => obtain ⟨z, vs, e, r⟩ := x; exact .lst e (r.mono h)
theorem WOk.some {K : KC} {G H : Hp} {p : Addr} {w : OW} (x : WOk K G H p w) : ∃ o, H p = .some o ∧ ∀ G' H', Sub G G' → H' p = .some o → WOk K G' H' p w := by
  cases w with
  | lst ds => obtain ⟨vs, e, r⟩ := x; exact ⟨_, e, fun G' H' h k => ⟨vs, k, r.mono h⟩⟩
  | dct t ds =>
    cases t with
    | false => obtain ⟨vs, e, r⟩ := x; exact ⟨_, e, fun G' H' h k => ⟨vs, k, r.mono h⟩⟩
    | true => obtain ⟨vs, e, r⟩ := x; exact ⟨_, e, fun G' H' h k => ⟨vs, k, r.mono h⟩⟩
  | ins c ds => obtain ⟨Ca, dx, vs, q, e, r⟩ := x; exact ⟨_, e, fun G' H' h k => ⟨Ca, dx, vs, q, k, r.mono h⟩⟩
  | self c ds => obtain ⟨z, Ca, dx, vs, q, e, r⟩ := x; exact ⟨_, e, fun G' H' h k => ⟨z, Ca, dx, vs, q, k, r.mono h⟩⟩
  | wlk ds => obtain ⟨z, vs, e, r⟩ := x; exact ⟨_, e, fun G' H' h k => ⟨z, vs, k, r.mono h⟩⟩
theorem WOk.freeze {K : KC} {G H : Hp} {p : Addr} {w : OW} (n : G p = none) (x : WOk K G H p w) : ∃ o, H p = .some o ∧ Rep K (upd G p o) (.ref p) w.d := by
  cases w with
  | lst ds => obtain ⟨vs, e, r⟩ := x; exact ⟨_, e, .lst upd_same (r.mono (.upd n))⟩
  | dct t ds =>
    cases t with
    | false => obtain ⟨vs, e, r⟩ := x; exact ⟨_, e, .dk (.of upd_same) (r.mono (.upd n))⟩
    | true => obtain ⟨vs, e, r⟩ := x; exact ⟨_, e, .dt (.of upd_same) (r.mono (.upd n))⟩
  | ins c ds => obtain ⟨Ca, dx, vs, q, e, r⟩ := x; exact ⟨_, e, .ins q upd_same (r.mono (.upd n))⟩
  | self c ds => obtain ⟨z, Ca, dx, vs, q, e, r⟩ := x; exact ⟨_, e, .ins q upd_same (r.mono (.upd n))⟩
  | wlk ds => obtain ⟨z, vs, e, r⟩ := x; exact ⟨_, e, .lst upd_same (r.mono (.upd n))⟩
structure Ent where
  G : Hp
  H : Hp
def ExcOk (K : KC) (G H : Hp) (cls : Value) (d : Option Addr) (e : Exn) : Prop :=
  ∃ a, K.C e.cls = some a ∧ cls = .ref a ∧ ((e.fs = [] ∧ d = none) ∨ ∃ dd fs, d = some dd ∧ G dd = some (.xd fs) ∧ RepF K G fs e.fs)
theorem ExcOk.mono {K : KC} {G G' H H' : Hp} {cls : Value} {d : Option Addr} {e : Exn} (h : Sub G G') (x : ExcOk K G H cls d e) : ExcOk K G' H' cls d e := by
  obtain ⟨a, h1, h2, h3⟩ := x
  refine ⟨a, h1, h2, ?_⟩
  rcases h3 with h3 | ⟨dd, fs, h4, h5, h6⟩
  · exact .inl h3
  · exact .inr ⟨dd, fs, h4, h _ _ h5, RepF.mono h h6⟩
def SlotOk (K : KC) (G H : Hp) (v : Option V) : SL → Prop
  | .no => True
  | .val d => ∃ u, v = some u ∧ Rep K G u d
  | .own w => ∃ p, v = some (.ref p) ∧ WOk K G H p w
  | .exn e => ∃ a Ca d, K.C.ex = some (a, Ca, d) ∧ v = some (.ref a) ∧ ExcOk K G G (.ref Ca) d e
  | .tre s t => ∃ u F, v = some u ∧ (s = true → ∃ p, u = .ref p ∧ K.C.slf = some p) ∧ TRep K G H u t F ∧ F.Nodup
  | .sts ks => ∃ f p L, K.C.so = some f ∧ v = some (.ref p) ∧ H p = some (f p L) ∧ noTup (f p L) = true ∧ (∀ q ∈ L, G q.1 = some (.tup (q.2.map kV))) ∧ (L.map (·.2)).Perm ks
theorem SlotOk.xmono {K : KC} {G G' H H' : Hp} {v : Option V} {e : Exn} (s : Sub G G') (h : SlotOk K G H v (.exn e)) : SlotOk K G' H' v (.exn e) := by
  obtain ⟨a, Ca, d, h1, h2, h3⟩ := h
  exact ⟨a, Ca, d, h1, h2, h3.mono s⟩
def SL.owns (x : SL) (H : Hp) (v : Option V) (p : Addr) : Prop := match x with
  | .own _ => v = some (.ref p)
  | .tre _ t => ∃ K G u F, v = some u ∧ TRep K G H u t F ∧ p ∈ F
  | .sts _ => v = some (.ref p)
  | _ => False
theorem SlotOk.move {K : KC} {G G' H H' : Hp} {v : Option V} {x : SL} (h : SlotOk K G H v x) (g : Sub G G') (tp : TupS H H') (k : ∀ a, x.owns H v a → ∀ o, H a = some o → H' a = some o) : SlotOk K G' H' v x := by
  cases x with
  | no => trivial
  | val d => obtain ⟨u, h3, h4⟩ := h; exact ⟨u, h3, h4.mono g⟩
  | own w => obtain ⟨p, h3, h4⟩ := h; exact ⟨p, h3, h4.mono g (k p h3)⟩
  | exn e => exact SlotOk.xmono g h
  | tre s t => obtain ⟨u, F, h3, h4, h5, h6⟩ := h; exact ⟨u, F, h3, h4, h5.mono g tp fun a m => k a ⟨K, G, u, F, h3, h5, m⟩, h6⟩
  | sts ks => obtain ⟨f, p, L, h1, h2, h3, h4, h5, h6⟩ := h; exact ⟨f, p, L, h1, h2, k p h2 _ h3, h4, fun q m => g _ _ (h5 q m), h6⟩
theorem SlotOk.nt {K : KC} {G H : Hp} {v : Option V} {x : SL} {a : Addr} (h : SlotOk K G H v x) (o : x.owns H v a) : NT H a := by
  cases x with
  | own w => obtain ⟨p, h3, h4⟩ := h; have o : v = some (.ref a) := o; rw [h3] at o; cases o; exact h4.nt
  | tre s t => obtain ⟨K', G', u', F', h3', h5', m⟩ := o; exact h5'.nt a m
  | sts ks => obtain ⟨f, p, L, h1, h2, h3, h4, h5, h6⟩ := h; have o : v = some (.ref a) := o; rw [h2] at o; cases o; exact ⟨_, h3, h4⟩
  | _ => exact o.elim
theorem SlotOk.back {K : KC} {G H H' : Hp} {v : Option V} {x : SL} {a : Addr} (h : SlotOk K G H v x) (tp : TupS H H') (k : ∀ a, x.owns H v a → ∀ o, H a = some o → H' a = some o) (o : x.owns H' v a) : x.owns H v a := by
  cases x with
  | tre s t =>
    obtain ⟨u, F, h3, h4, h5, h6⟩ := h
    obtain ⟨K', G', u', F', h3', h5', m⟩ := o
    rw [h3] at h3'; cases h3'
    have := h5.mono .refl tp fun a m => k a ⟨K, G, u, F, h3, h5, m⟩
    rw [TRep.uniq h5' this] at m
    exact ⟨K, G, u, F, h3, h5, m⟩
  | _ => exact o
structure ER (K : KC) (Z : Ent) (G H : Hp) (σ : L2.St) (env : Env) : Prop where
  len : σ.length = env.length
  zg : Sub Z.G G
  zh : Sub Z.H H
  zzz : Sub Z.G Z.H
  sub : Sub G H
  new : ∀ a, G a ≠ none → Z.G a = none → ¬ NT Z.H a
  at' : ∀ (i : Nat) (x : SL), env[i]? = some x → ∃ v, σ[i]? = some v ∧ SlotOk K G H v x
  own : ∀ (i : Nat) (x : SL) (v : Option V) (p : Addr), env[i]? = some x → σ[i]? = some v → x.owns H v p → G p = none ∧ Z.H p = none
  dis : ∀ (i j : Nat) (x y : SL) (v u : Option V) (p : Addr), env[i]? = some x → σ[i]? = some v → x.owns H v p → env[j]? = some y → σ[j]? = some u → y.owns H u p → i = j
def Free (H : Hp) (σ : L2.St) (env : Env) (p : Addr) : Prop := ∀ (i : Nat) (x : SL) (v : Option V), env[i]? = some x → σ[i]? = some v → ¬ x.owns H v p
theorem ER.move {K : KC} {Z : Ent} {G H G' H' : Hp} {σ : L2.St} {env : Env} (er : ER K Z G H σ env) (g : Sub G G') (zh : Sub Z.H H') (s : Sub G' H') (new : ∀ a, G' a ≠ none → Z.G a = none → ¬ NT Z.H a) (tp : TupS H H')
    (k : ∀ (i : Nat) (x : SL) (v : Option V) (a : Addr), env[i]? = some x → σ[i]? = some v → x.owns H v a → (∀ o, H a = some o → H' a = some o) ∧ G' a = none) : ER K Z G' H' σ env := by
  have bk : ∀ {i : Nat} {x : SL} {v : Option V} {a : Addr}, env[i]? = some x → σ[i]? = some v → x.owns H' v a → x.owns H v a := fun {i x v a} q1 q2 o => by
    obtain ⟨u, h1, h2⟩ := er.at' i x q1
    rw [q2] at h1; cases h1
    exact h2.back tp (fun a o => (k i x v a q1 q2 o).1) o
  refine ⟨er.len, er.zg.trans g, zh, er.zzz, s, new, fun i y q => ?_, fun i y v p q1 q2 o => ?_, fun i j x y v u p q1 q2 o1 q3 q4 o2 => er.dis i j x y v u p q1 q2 (bk q1 q2 o1) q3 q4 (bk q3 q4 o2)⟩
  · obtain ⟨v, h1, h2⟩ := er.at' i y q
    exact ⟨v, h1, h2.move g tp fun a o => (k i y v a q h1 o).1⟩
  · have o' := bk q1 q2 o
    exact ⟨(k i y v p q1 q2 o').2, (er.own i y v p q1 q2 o').2⟩
theorem ER.nt {K : KC} {Z : Ent} {G H : Hp} {σ : L2.St} {env : Env} (er : ER K Z G H σ env) {i : Nat} {x : SL} {v : Option V} {a : Addr} (q1 : env[i]? = some x) (q2 : σ[i]? = some v) (o : x.owns H v a) : NT H a := by
  obtain ⟨u, h1, h2⟩ := er.at' i x q1
  rw [q2] at h1; cases h1
  exact h2.nt o
structure Ext (G H G' H' : Hp) : Prop where
  g : Sub G G'
  h : Sub H H'
  s : Sub G' H'
  n : ∀ a, G a = none → NT H a → G' a = none
theorem Ext.refl {G H : Hp} (s : Sub G H) : Ext G H G H := ⟨.refl, .refl, s, fun _ h _ => h⟩
theorem Ext.trans {G H G1 H1 G2 H2 : Hp} (x : Ext G H G1 H1) (y : Ext G1 H1 G2 H2) : Ext G H G2 H2 :=
  ⟨x.g.trans y.g, x.h.trans y.h, y.s, fun a e n => y.n a (x.n a e n) (n.mono x.h)⟩
theorem Ext.lay {G H : Hp} (s : Sub G H) {p : Addr} {o : HO} (h : H p = none) : Ext G H G (upd H p o) :=
  ⟨.refl, .upd h, s.updR (s.none h), fun _ e _ => e⟩
theorem Ext.lay2 {G H : Hp} (s : Sub G H) {p : Addr} {o : HO} (h : H p = none) : Ext G H (upd G p o) (upd H p o) :=
  ⟨.upd (s.none h), .upd h, fun a u e => by
    by_cases z : a = p
    · subst z; rw [upd_same] at e ⊢; exact e
    · rw [upd_ne z] at e ⊢; exact s a u e, fun a e n => by rw [upd_ne (fun z => n.no (by rw [z]; exact h))]; exact e⟩
theorem Ext.freeze {G H G' H' : Hp} (x : Ext G H G' H') {p : Addr} {o : HO} (h : H p = none) (e : H' p = some o) : Ext G H (upd G' p o) H' := by
  refine ⟨fun a u q => ?_, x.h, x.s.upd2 e, fun a q n => ?_⟩
  · by_cases z : a = p
    · subst z
      have := x.s _ _ (x.g _ _ q)
      rw [e] at this; cases this
      exact upd_same
    · rw [upd_ne z]; exact x.g a u q
  · rw [upd_ne (fun z => n.no (by rw [z]; exact h))]; exact x.n a q n
theorem ER.ext {K : KC} {Z : Ent} {G H G' H' : Hp} {σ : L2.St} {env : Env} (e : ER K Z G H σ env) (x : Ext G H G' H') : ER K Z G' H' σ env := by
  refine e.move x.g (e.zh.trans x.h) x.s (fun a n z nt => ?_) x.h.tupS fun i y v a q1 q2 o => ⟨x.h a, x.n a (e.own i y v a q1 q2 o).1 (e.nt q1 q2 o)⟩
  by_cases g : G a = none
  · exact absurd (x.n a g (nt.mono e.zh)) n
  · exact e.new a g z nt
theorem Free.ext {K : KC} {Z : Ent} {G H G' H' : Hp} {σ : L2.St} {env : Env} {p : Addr} (f : Free H σ env p) (e : ER K Z G H σ env) (x : Ext G H G' H') : Free H' σ env p := fun i y v q1 q2 o => by
  obtain ⟨u, h1, h2⟩ := e.at' i y q1
  rw [q2] at h1; cases h1
  exact f i y v q1 q2 (h2.back x.h.tupS (fun a _ => x.h a) o)
def EVok (K : KC) (Z : Ent) (Hs : Hp) (G' H' : Hp) (v : V) : EV → Prop
  | .fz d => Rep K G' v d
  | .ow new w => ∃ p, v = .ref p ∧ WOk K G' H' p w ∧ G' p = none ∧ Z.H p = none ∧ (new = true → Hs p = none)
theorem EVok.ext {K : KC} {Z : Ent} {Hs G H G' H' : Hp} {v : V} {ev : EV} (x : Ext G H G' H') (h : EVok K Z Hs G H v ev) : EVok K Z Hs G' H' v ev := by
  cases ev with
  | fz d => exact Rep.mono x.g h
  | ow n w =>
    obtain ⟨p, e, h1, h2, h3, h4⟩ := h
    exact ⟨p, e, h1.mono x.g fun o q => x.h p o q, x.n p h2 h1.nt, h3, h4⟩
theorem EVok.start {K : KC} {Z : Ent} {Hs Hs' G H : Hp} {v : V} {ev : EV} (x : Sub Hs' Hs) (h : EVok K Z Hs G H v ev) : EVok K Z Hs' G H v ev := by
  cases ev with
  | fz d => exact h
  | ow n w =>
    obtain ⟨p, e, h1, h2, h3, h4⟩ := h
    exact ⟨p, e, h1, h2, h3, fun q => x.none (h4 q)⟩
theorem EVok.rep {K : KC} {Z : Ent} {Hs G H : Hp} {v : V} {ev : EV} (s : Sub G H) (h : EVok K Z Hs G H v ev) : Rep K H v ev.d := by
  cases ev with
  | fz d => exact Rep.mono s h
  | ow n w =>
    obtain ⟨p, e, h1, _⟩ := h
    subst e
    exact h1.rep s
inductive EVs (K : KC) (Z : Ent) (Hs G H : Hp) : List V → List EV → Prop
  | nil : EVs K Z Hs G H [] []
  | cons {v : V} {vs : List V} {e : EV} {es : List EV} : EVok K Z Hs G H v e → EVs K Z Hs G H vs es → EVs K Z Hs G H (v :: vs) (e :: es)
def EV.fr : EV → EV
  | .ow true w => .fz w.d
  | e => e
@[simp] theorem EV.fr_fz (d : D) : (EV.fz d).fr = .fz d := rfl
@[simp] theorem EV.fr_new (w : OW) : (EV.ow true w).fr = .fz w.d := rfl
@[simp] theorem EV.fr_old (w : OW) : (EV.ow false w).fr = .ow false w := rfl
theorem EVok.fr {K : KC} {Z : Ent} {Hs G H G' H' : Hp} {v : V} {ev : EV} (x : Ext G H G' H') (hs : Sub H Hs) (h : EVok K Z Hs G' H' v ev) : ∃ G2, Ext G H G2 H' ∧ Sub G' G2 ∧ EVok K Z Hs G2 H' v ev.fr := by
  cases ev with
  | fz d => exact ⟨G', x, .refl, h⟩
  | ow n w =>
    cases n with
    | false => exact ⟨G', x, .refl, h⟩
    | true =>
      obtain ⟨p, e, h1, h2, h3, h4⟩ := h
      subst e
      obtain ⟨o, h5, h6⟩ := h1.freeze h2
      exact ⟨upd G' p o, x.freeze (hs.none (h4 rfl)) h5, .upd h2, h6⟩
end DL
namespace DL
open PySem PySem.Spec PyProof.Rows L2
abbrev kc (X : Cx) (C : CT) : KC := ⟨X.K, C⟩
def tE (K : KC) (W : WX) (m : Env → Rz EV) : TE := fun σ H Q => ∃ Z G env, ER K Z G H σ env ∧ match m env with
  | .ok ev => ∀ v G' H', Ext G H G' H' → EVok K Z H G' H' v ev → Q v H'
  | .exc e => ∀ cls d G' H', Ext G H G' H' → ExcOk K G' H' cls d e → W cls d σ H'
  | .stuck => False
def tT (K : KC) (W : WX) (m : Env → Rz Bool) : TT := fun σ H Q => ∃ Z G env, ER K Z G H σ env ∧ match m env with
  | .ok b => ∀ G' H', Ext G H G' H' → Q b H'
  | .exc e => ∀ cls d G' H', Ext G H G' H' → ExcOk K G' H' cls d e → W cls d σ H'
  | .stuck => False
def tA (K : KC) (W : WX) (m : Env → Rz (List EV)) : TA := fun σ H Q => ∃ Z G env, ER K Z G H σ env ∧ match m env with
  | .ok evs => ∀ vs G' H', Ext G H G' H' → EVs K Z H G' H' vs evs → Q vs H'
  | .exc e => ∀ cls d G' H', Ext G H G' H' → ExcOk K G' H' cls d e → W cls d σ H'
  | .stuck => False
structure DE (X : Cx) (C : CT) (W : WX) (e : Expr) (m : Env → Rz EV) : Prop where
  pe : PE X e (tE (kc X C) W m)
structure DT (X : Cx) (C : CT) (W : WX) (e : Expr) (m : Env → Rz Bool) : Prop where
  pt : PT X e (tT (kc X C) W m)
structure DA (X : Cx) (C : CT) (W : WX) (es : List Expr) (m : Env → Rz (List EV)) : Prop where
  pa : PA X es (tA (kc X C) W m)
inductive Out where
  | nx (env : Env) | bk (env : Env) | ct (env : Env) | ret (ev : EV) | exc (e : Exn) (env : Env) | stuck | rtE (ev : EV) (env : Env)
def Post (K : KC) (W : WX) (Z : Ent) (D : Ends) (G : Hp) : Out → Prop
  | .nx env => ∀ σ H G', Sub G G' → ER K Z G' H σ env → D.nx σ H
  | .bk env => ∀ σ H G', Sub G G' → ER K Z G' H σ env → D.bk σ H
  | .ct env => ∀ σ H G', Sub G G' → ER K Z G' H σ env → D.ct σ H
  | .ret ev => ∀ σ env v H G' Hs, Sub G G' → ER K Z G' H σ env → Sub Z.H Hs → EVok K Z Hs G' H v ev → D.rt v H
  | .exc e env => ∀ σ H G' cls d, Sub G G' → ER K Z G' H σ env → ExcOk K G' H cls d e → W cls d σ H
  | .stuck => False
  | .rtE ev env => ∀ σ v H G' Hs, Sub G G' → ER K Z G' H σ env → Sub Z.H Hs → EVok K Z Hs G' H v ev → D.rt v H
theorem Post.mono {K : KC} {W : WX} {Z : Ent} {D : Ends} {G G1 : Hp} {o : Out} (s : Sub G G1) (h : Post K W Z D G o) : Post K W Z D G1 o := by
  cases o with
  | nx env => exact fun σ H G' q => h σ H G' (s.trans q)
  | bk env => exact fun σ H G' q => h σ H G' (s.trans q)
  | ct env => exact fun σ H G' q => h σ H G' (s.trans q)
  | ret ev => exact fun σ env v H G' Hs q => h σ env v H G' Hs (s.trans q)
  | exc e env => exact fun σ H G' cls d q => h σ H G' cls d (s.trans q)
  | stuck => exact h
  | rtE ev env => exact fun σ v H G' Hs q => h σ v H G' Hs (s.trans q)
def tS (K : KC) (W : WX) (m : Env → Out) : TS := fun D σ H => ∃ Z G env, ER K Z G H σ env ∧ Post K W Z D G (m env)
structure DS (X : Cx) (C : CT) (W : WX) (st : Stmt) (m : Env → Out) : Prop where
  ps : PS X st (tS (kc X C) W m)
structure DSs (X : Cx) (C : CT) (W : WX) (st : List Stmt) (m : Env → Out) : Prop where
  pss : PSs X st (tS (kc X C) W m)
theorem PE.imp {X : Cx} {e : Expr} {t t' : TE} (h : PE X e t) (k : ∀ σ H Q, t' σ H Q → t σ H Q) : PE X e t' := ⟨fun pins s σ H Q I q => h.run pins s σ H Q I (k _ _ _ q)⟩
theorem PT.imp {X : Cx} {e : Expr} {t t' : TT} (h : PT X e t) (k : ∀ σ H Q, t' σ H Q → t σ H Q) : PT X e t' := ⟨fun pins s σ H Q I q => h.run pins s σ H Q I (k _ _ _ q)⟩
theorem PA.imp {X : Cx} {e : List Expr} {t t' : TA} (h : PA X e t) (k : ∀ σ H Q, t' σ H Q → t σ H Q) : PA X e t' := ⟨fun pos pins s σ H Q I q => h.run pos pins s σ H Q I (k _ _ _ q)⟩
theorem PS.imp {X : Cx} {e : Stmt} {t t' : TS} (h : PS X e t) (k : ∀ D σ H, t' D σ H → t D σ H) : PS X e t' := ⟨fun pins s σ H D I q => h.run pins s σ H D I (k _ _ _ q)⟩
theorem PSs.imp {X : Cx} {e : List Stmt} {t t' : TS} (h : PSs X e t) (k : ∀ D σ H, t' D σ H → t D σ H) : PSs X e t' := ⟨fun pins s σ H D I q => h.run pins s σ H D I (k _ _ _ q)⟩
theorem tE.go {K : KC} {W : WX} {m : Env → Rz EV} {Z : Ent} {G H : Hp} {σ : L2.St} {env : Env} {Q : VK} (e : ER K Z G H σ env)
    (h : match m env with
      | .ok ev => ∀ v G' H', Ext G H G' H' → EVok K Z H G' H' v ev → Q v H'
      | .exc e => ∀ cls d G' H', Ext G H G' H' → ExcOk K G' H' cls d e → W cls d σ H'
      | .stuck => False) : tE K W m σ H Q := ⟨Z, G, env, e, h⟩
section
variable {X : Cx} {C : CT} {W : WX}
def mC (d : D) : Env → Rz EV := fun _ => .ok (.fz d)
theorem de_of_val {e : Expr} {v : V} {d : D} (h : PE X e (tC v)) (r : ∀ G, Rep (kc X C) G v d) : DE X C W e (mC d) := ⟨PE.imp h fun σ H Q ⟨Z, G, env, er, q⟩ =>
  q v G H (.refl er.sub) (r G)⟩
theorem de_int {i j pos} : DE X C W (.Constant (.int i) j pos) (mC (.int i)) := de_of_val pe_int fun _ => .int i
theorem de_bl {b j pos} : DE X C W (.Constant (.bool b) j pos) (mC (.bl b)) := de_of_val pe_bl fun _ => .bl b
theorem de_non {j pos} : DE X C W (.Constant .none j pos) (mC .non) := de_of_val pe_non fun _ => .non
theorem de_str {x j pos} : DE X C W (.Constant (.str x) j pos) (mC (.str x)) := de_of_val pe_str fun _ => .str x
theorem de_globS {x y : Str} {t : Tok} {pos : Pos} (hm : X.mg x = some (.str y t)) (hg : Gl X x := by rfl) (hd : (x == ("__debug__" : Str)) = false := by decide) : DE X C W (.Name x pos) (mC (.str y)) :=
  de_of_val (pe_glob hg hm (v := .str y) ⟨t, rfl⟩ hd) fun _ => .str y
def rdSlot : SL → Rz EV
  | .no => .stuck
  | .val d => .ok (.fz d)
  | .own w => .ok (.ow false w)
  | .exn _ => .stuck
  | .tre _ _ => .stuck
  | .sts _ => .stuck
def mV (i : Nat) : Env → Rz EV := fun env => rdSlot (env.getD i .no)
theorem getD_some {env : Env} {i : Nat} {x : SL} (h : env.getD i .no = x) (hx : x ≠ .no) : env[i]? = some x := by
  rw [List.getD_eq_getElem?_getD] at h
  cases q : env[i]? with
  | none => rw [q] at h; exact absurd h.symm hx
  | some y => rw [q] at h; exact congrArg some h
theorem de_var (i : Nat) {x : Str} {pos : Pos} (hN : X.N[i]? = some x := by rfl) (hv : Vis X.env.scope x := by first | exact Or.inl rfl | exact Or.inr (Or.inl rfl) | exact Or.inr (Or.inr rfl)) (hd : (x == ("__debug__" : Str)) = false := by decide)
    (hcd : (x == ("__classdict__" : Str)) = false := by decide) : DE X C W (.Name x pos) (mV i) := ⟨PE.imp (pe_var hN hv hd hcd) fun σ H Q ⟨Z, G, env, er, q⟩ => by
  unfold mV at q
  cases hx : env.getD i .no with
  | no => rw [hx] at q; exact q.elim
  | exn e => rw [hx] at q; exact q.elim
  | tre s t => rw [hx] at q; exact q.elim
  | sts ks => rw [hx] at q; exact q.elim
  | val d =>
    rw [hx] at q
    obtain ⟨v, h1, u, h2, h3⟩ := er.at' i _ (getD_some hx (by simp))
    subst h2
    exact ⟨u, h1, q u G H (.refl er.sub) h3⟩
  | own w =>
    rw [hx] at q
    have hi := getD_some hx (by simp)
    obtain ⟨v, h1, p, h2, h3⟩ := er.at' i _ hi
    subst h2
    obtain ⟨o1, o2⟩ := er.own i _ _ p hi h1 rfl
    exact ⟨.ref p, h1, q _ G H (.refl er.sub) ⟨p, rfl, h3, o1, o2, fun z => by cases z⟩⟩⟩
def OpD (X : Cx) (C : CT) (f : Value → Value → Sem Value) (g : EV → EV → Rz EV) : Prop :=
  ∃ r : R2, OpR X f r ∧ ∀ (Z : Ent) (G H Hs : Hp) (x y : V) (a b : EV) (Q : VK), Sub G H → Sub Z.H H → EVok (kc X C) Z Hs G H x a → EVok (kc X C) Z Hs G H y b →
    (match g a b with
      | .ok ev => ∀ v G' H', Ext G H G' H' → EVok (kc X C) Z H G' H' v ev → Q v H'
      | _ => False) → r x y H Q
def m2 (ma mb : Env → Rz EV) (g : EV → EV → Rz EV) : Env → Rz EV := fun env => ma env >>= fun a => mb env >>= fun b => g a b
theorem two_go {ma mb : Env → Rz EV} {g : EV → EV → Rz EV} {r : R2} {σ : L2.St} {H : Hp} {Q : VK}
    (ho : ∀ (Z : Ent) (G H Hs : Hp) (x y : V) (a b : EV) (Q : VK), Sub G H → Sub Z.H H → EVok (kc X C) Z Hs G H x a → EVok (kc X C) Z Hs G H y b →
      (match g a b with
        | .ok ev => ∀ v G' H', Ext G H G' H' → EVok (kc X C) Z H G' H' v ev → Q v H'
        | _ => False) → r x y H Q)
    (hg : ∀ a b e, g a b ≠ .exc e) (h : tE (kc X C) W (m2 ma mb g) σ H Q) : tOp r (tE (kc X C) W ma) (tE (kc X C) W mb) σ H Q := by
  obtain ⟨Z, G, env, er, q⟩ := h
  unfold m2 at q
  refine ⟨Z, G, env, er, ?_⟩
  cases ha : ma env with
  | stuck => rw [ha] at q; exact q.elim
  | exc e => rw [ha] at q; exact q
  | ok a =>
    rw [ha] at q
    refine fun x G1 H1 x1 va => ⟨Z, G1, env, er.ext x1, ?_⟩
    cases hb : mb env with
    | stuck => rw [hb] at q; exact q.elim
    | exc e =>
      rw [hb] at q
      exact fun cls d G' H' x2 => q cls d G' H' (x1.trans x2)
    | ok b =>
      rw [hb] at q
      refine fun y G2 H2 x2 vb => ?_
      refine ho Z G2 H2 H x y a b Q x2.s (er.zh.trans (x1.h.trans x2.h)) (va.ext x2) (vb.start x1.h) ?_
      simp only [Rz.ok_bind] at q
      cases hgg : g a b with
      | stuck => rw [hgg] at q; exact q.elim
      | exc e => exact absurd hgg (hg a b e)
      | ok ev =>
        rw [hgg] at q
        exact fun v G' H' x3 ve => q v G' H' ((x1.trans x2).trans x3) (ve.start (x1.h.trans x2.h))
structure NoExc (g : EV → EV → Rz EV) : Prop where
  no : ∀ a b e, g a b ≠ .exc e
theorem de_op {op : Operator} {g : EV → EV → Rz EV} {a b : Expr} {ma mb : Env → Rz EV} {pos : Pos} (ho : OpD X C (binaryOp op) g) (hg : NoExc g) (ha : DE X C W a ma) (hb : DE X C W b mb) : DE X C W (.BinOp a op b pos) (m2 ma mb g) := by
  obtain ⟨r, h1, h2⟩ := ho
  exact ⟨PE.imp (pe_op h1 ha.pe hb.pe) fun σ H Q h => two_go h2 hg.no h⟩
theorem de_cmp {op : CmpOp} {g : EV → EV → Rz EV} {a b : Expr} {ma mb : Env → Rz EV} {pos : Pos} (ho : OpD X C (compareOp op) g) (hg : NoExc g) (ha : DE X C W a ma) (hb : DE X C W b mb) (hm : behindInMarks op b = false := by first | exact nomark _ | rfl) : DE X C W (.Compare a [op] [b] pos) (m2 ma mb g) := by
  obtain ⟨r, h1, h2⟩ := ho
  exact ⟨PE.imp (pe_cmpR h1 ha.pe hb.pe hm) fun σ H Q h => two_go h2 hg.no h⟩
def asB : EV → Rz Bool
  | .fz (.bl b) => .ok b
  | _ => .stuck
@[simp] theorem asB_bl (b : Bool) : asB (.fz (.bl b)) = .ok b := rfl
def mB (m : Env → Rz EV) : Env → Rz Bool := fun env => m env >>= asB
theorem asB_ok {K : KC} {Z : Ent} {Hs G H : Hp} {v : V} {ev : EV} {b : Bool} (h : asB ev = .ok b) (k : EVok K Z Hs G H v ev) : v = .bl b := by
  unfold asB at h
  split at h
  · cases h; cases k; rfl
  · cases h
theorem asB_exc {ev : EV} {e : Exn} : asB ev ≠ .exc e := by
  unfold asB; split <;> simp
theorem tB_go {m : Env → Rz EV} {σ : L2.St} {H : Hp} {Q : Bool → Hp → Prop} (h : tT (kc X C) W (mB m) σ H Q) : tE (kc X C) W m σ H fun x H1 => ∃ k, x = .bl k ∧ Q k H1 := by
  obtain ⟨Z, G, env, er, q⟩ := h
  unfold mB at q
  refine ⟨Z, G, env, er, ?_⟩
  cases ha : m env with
  | stuck => rw [ha] at q; exact q.elim
  | exc e => rw [ha] at q; exact q
  | ok ev =>
    rw [ha] at q
    simp only [Rz.ok_bind] at q
    cases hb : asB ev with
    | stuck => rw [hb] at q; exact q.elim
    | exc e => exact absurd hb asB_exc
    | ok b =>
      rw [hb] at q
      exact fun v G' H' x k => ⟨b, asB_ok hb k, q G' H' x⟩
theorem dt_cmp {op : CmpOp} {g : EV → EV → Rz EV} {a b : Expr} {ma mb : Env → Rz EV} {pos : Pos} (ho : OpD X C (compareOp op) g) (hg : NoExc g) (ha : DE X C W a ma) (hb : DE X C W b mb) (hm : behindInMarks op b = false := by first | exact nomark _ | rfl) : DT X C W (.Compare a [op] [b] pos) (mB (m2 ma mb g)) := by
  obtain ⟨r, h1, h2⟩ := ho
  exact ⟨PT.imp (pt_cmpR h1 ha.pe hb.pe hm) fun σ H Q h => two_go h2 hg.no (tB_go h)⟩
theorem dt_val {e : Expr} {m : Env → Rz EV} (h : DE X C W e m) (he : ∀ whole, isTrue e X.env whole = (do let v ← whole; standAt e.pos; holding [v] (truthy v)) := by intro _; rfl) : DT X C W e (mB m) :=
  ⟨PT.imp (pt_val h.pe he) fun σ H Q h => tB_go h⟩
def mAnd (a b : Env → Rz Bool) : Env → Rz Bool := fun env => a env >>= fun x => if x = true then b env else .ok false
def mOr (a b : Env → Rz Bool) : Env → Rz Bool := fun env => a env >>= fun x => if x = true then .ok true else b env
def mNot (a : Env → Rz Bool) : Env → Rz Bool := fun env => a env >>= fun x => .ok (!x)
structure DW (X : Cx) (C : CT) (W : WX) (e : Expr) (m : Env → Rz Bool) : Prop where
  pw : PW X e (tT (kc X C) W m)
theorem DW.dt {e : Expr} {m : Env → Rz Bool} (h : DW X C W e m) : DT X C W e m := ⟨h.pw.pt⟩
theorem PW.imp {e : Expr} {t t' : TT} (h : PW X e t) (k : ∀ σ H Q, t' σ H Q → t σ H Q) : PW X e t' := ⟨fun wh pins s σ H Q I q => h.run wh pins s σ H Q I (k _ _ _ q)⟩
theorem tT_seq {ma : Env → Rz Bool} {f : Bool → Env → Rz Bool} {σ : L2.St} {H : Hp} {Q : Bool → Hp → Prop} (h : tT (kc X C) W (fun env => ma env >>= fun x => f x env) σ H Q) :
    tT (kc X C) W ma σ H fun x H1 => tT (kc X C) W (f x) σ H1 Q := by
  obtain ⟨Z, G, env, er, q⟩ := h
  refine ⟨Z, G, env, er, ?_⟩
  cases ha : ma env with
  | stuck => simp only [ha] at q; exact q.elim
  | exc e => simp only [ha] at q; exact q
  | ok a =>
    simp only [ha, Rz.ok_bind] at q
    refine fun G1 H1 x1 => ⟨Z, G1, env, er.ext x1, ?_⟩
    cases hb : f a env with
    | stuck => rw [hb] at q; exact q.elim
    | exc e => rw [hb] at q; exact fun cls d G' H' x2 => q cls d G' H' (x1.trans x2)
    | ok b => rw [hb] at q; exact fun G' H' x2 => q G' H' (x1.trans x2)
theorem tT_ok {b : Bool} {σ : L2.St} {H : Hp} {Q : Bool → Hp → Prop} {f : Env → Rz Bool} (hf : ∀ env, f env = .ok b) (h : tT (kc X C) W f σ H Q) : Q b H := by
  obtain ⟨Z, G, env, er, q⟩ := h
  rw [hf] at q
  exact q G H (.refl er.sub)
theorem dw_and1 {a : Expr} {m : Env → Rz Bool} {pos : Pos} (h : DT X C W a m) : DW X C W (.BoolOp .And [a] pos) m := ⟨pw_and1 h.pt⟩
theorem dw_or1 {a : Expr} {m : Env → Rz Bool} {pos : Pos} (h : DT X C W a m) : DW X C W (.BoolOp .Or [a] pos) m := ⟨pw_or1 h.pt⟩
theorem dw_and {a b : Expr} {rest : List Expr} {ma mb : Env → Rz Bool} {pos : Pos} (ha : DT X C W a ma) (hb : DW X C W (.BoolOp .And (b :: rest) pos) mb) : DW X C W (.BoolOp .And (a :: b :: rest) pos) (mAnd ma mb) :=
  ⟨PW.imp (pw_and ha.pt hb.pw) fun σ H Q h => by
    have q := tT_seq (f := fun x env => if x = true then mb env else .ok false) h
    obtain ⟨Z, G, env, er, q⟩ := q
    refine ⟨Z, G, env, er, ?_⟩
    cases hm : ma env with
    | stuck => rw [hm] at q; exact q
    | exc e => rw [hm] at q; exact q
    | ok c =>
      rw [hm] at q
      intro G1 H1 x1
      have q := q G1 H1 x1
      cases c with
      | true => exact q
      | false => exact tT_ok (b := false) (fun _ => rfl) q⟩
theorem dw_or {a b : Expr} {rest : List Expr} {ma mb : Env → Rz Bool} {pos : Pos} (ha : DT X C W a ma) (hb : DW X C W (.BoolOp .Or (b :: rest) pos) mb) : DW X C W (.BoolOp .Or (a :: b :: rest) pos) (mOr ma mb) :=
  ⟨PW.imp (pw_or ha.pt hb.pw) fun σ H Q h => by
    have q := tT_seq (f := fun x env => if x = true then .ok true else mb env) h
    obtain ⟨Z, G, env, er, q⟩ := q
    refine ⟨Z, G, env, er, ?_⟩
    cases hm : ma env with
    | stuck => rw [hm] at q; exact q
    | exc e => rw [hm] at q; exact q
    | ok c =>
      rw [hm] at q
      intro G1 H1 x1
      have q := q G1 H1 x1
      cases c with
      | true => exact tT_ok (b := true) (fun _ => rfl) q
      | false => exact q⟩
theorem dt_not {a : Expr} {ma : Env → Rz Bool} {pos : Pos} (ha : DT X C W a ma) : DT X C W (.UnaryOp .Not a pos) (mNot ma) :=
  ⟨PT.imp (pt_not ha.pt) fun σ H Q h => by
    obtain ⟨Z, G, env, er, q⟩ := tT_seq (f := fun x _ => .ok (!x)) h
    refine ⟨Z, G, env, er, ?_⟩
    cases hm : ma env with
    | stuck => rw [hm] at q; exact q
    | exc e => rw [hm] at q; exact q
    | ok c => rw [hm] at q; exact fun G1 H1 x1 => tT_ok (b := !c) (fun _ => rfl) (q G1 H1 x1)⟩
theorem tE_seq {ma : Env → Rz EV} {f : EV → Env → Rz EV} {σ : L2.St} {H : Hp} {Q : VK} (h : tE (kc X C) W (fun env => ma env >>= fun x => f x env) σ H Q)
    {R : VK} (hR : ∀ (Z : Ent) (G1 H1 : Hp) (env : Env) (v : V) (a : EV), ER (kc X C) Z G1 H1 σ env → EVok (kc X C) Z H G1 H1 v a → Sub H H1 → tE (kc X C) W (f a) σ H1 Q → R v H1) : tE (kc X C) W ma σ H R := by
  obtain ⟨Z, G, env, er, q⟩ := h
  refine ⟨Z, G, env, er, ?_⟩
  cases ha : ma env with
  | stuck => simp only [ha] at q; exact q.elim
  | exc e => simp only [ha] at q; exact q
  | ok a =>
    simp only [ha, Rz.ok_bind] at q
    refine fun v G1 H1 x1 va => hR Z G1 H1 env v a (er.ext x1) va x1.h ⟨Z, G1, env, er.ext x1, ?_⟩
    cases hb : f a env with
    | stuck => rw [hb] at q; exact q.elim
    | exc e => rw [hb] at q; exact fun cls d G' H' x2 => q cls d G' H' (x1.trans x2)
    | ok b => rw [hb] at q; exact fun v G' H' x2 vb => q v G' H' (x1.trans x2) (vb.start x1.h)
def mAndV (a b : Env → Rz EV) : Env → Rz EV := fun env => a env >>= fun x => asB x >>= fun k => if k = true then b env else .ok (.fz (.bl false))
def mOrV (a b : Env → Rz EV) : Env → Rz EV := fun env => a env >>= fun x => asB x >>= fun k => if k = true then .ok (.fz (.bl true)) else b env
def mNotV (a : Env → Rz EV) : Env → Rz EV := fun env => a env >>= fun x => asB x >>= fun k => .ok (.fz (.bl (!k)))
theorem asB_seq {a : EV} {f : Bool → Env → Rz EV} {σ : L2.St} {H : Hp} {Q : VK} {K : KC} {Z : Ent} {Hs G1 H1 : Hp} {v : V} (va : EVok K Z Hs G1 H1 v a) (h : tE (kc X C) W (fun env => asB a >>= fun k => f k env) σ H Q) : ∃ k, v = .bl k ∧ tE (kc X C) W (f k) σ H Q := by
  obtain ⟨Z, G, env, er, q⟩ := h
  cases hb : asB a with
  | stuck => simp only [hb] at q; exact q.elim
  | exc e => exact absurd hb asB_exc
  | ok k =>
    simp only [hb, Rz.ok_bind] at q
    exact ⟨k, asB_ok hb va, Z, G, env, er, q⟩
theorem tE_bl {b : Bool} {σ : L2.St} {H : Hp} {Q : VK} {f : Env → Rz EV} (hf : ∀ env, f env = .ok (.fz (.bl b))) (h : tE (kc X C) W f σ H Q) : Q (.bl b) H := by
  obtain ⟨Z, G, env, er, q⟩ := h
  rw [hf] at q
  exact q _ G H (.refl er.sub) (.bl b)
theorem de_one {op} {a : Expr} {m : Env → Rz EV} {pos : Pos} (h : DE X C W a m) : DE X C W (.BoolOp op [a] pos) m := ⟨pe_one h.pe⟩
theorem de_and {a b : Expr} {rest : List Expr} {ma mb : Env → Rz EV} {pos : Pos} (ha : DE X C W a ma) (hb : DE X C W (.BoolOp .And (b :: rest) pos) mb) : DE X C W (.BoolOp .And (a :: b :: rest) pos) (mAndV ma mb) :=
  ⟨PE.imp (pe_and ha.pe hb.pe) fun σ H Q h => tE_seq (f := fun x env => asB x >>= fun k => if k = true then mb env else .ok (.fz (.bl false))) h fun Z G1 H1 env v a er va hs q => by
    obtain ⟨k, rfl, q⟩ := asB_seq (f := fun k env => if k = true then mb env else .ok (.fz (.bl false))) va q
    refine ⟨k, rfl, ?_⟩
    cases k with
    | true => exact q
    | false => exact tE_bl (b := false) (fun _ => rfl) q⟩
theorem de_not {a : Expr} {ma : Env → Rz EV} {pos : Pos} (ha : DE X C W a ma) : DE X C W (.UnaryOp .Not a pos) (mNotV ma) :=
  ⟨PE.imp (pe_not ha.pe) fun σ H Q h => tE_seq (f := fun x _ => asB x >>= fun k => .ok (.fz (.bl (!k)))) h fun Z G1 H1 env v a er va hs q => by
    obtain ⟨k, rfl, q⟩ := asB_seq (f := fun k _ => .ok (.fz (.bl (!k)))) va q
    exact ⟨k, rfl, tE_bl (b := !k) (fun _ => rfl) q⟩⟩
def mIf (t : Env → Rz Bool) (a b : Env → Rz EV) : Env → Rz EV := fun env => t env >>= fun x => if x = true then a env else b env
def mNil : Env → Rz (List EV) := fun _ => .ok []
def mCons (a : Env → Rz EV) (r : Env → Rz (List EV)) : Env → Rz (List EV) := fun env => a env >>= fun x => r env >>= fun xs => .ok (x.fr :: xs)
theorem EVs.ext {K : KC} {Z : Ent} {Hs G H G' H' : Hp} (x : Ext G H G' H') : ∀ {vs : List V} {es : List EV}, EVs K Z Hs G H vs es → EVs K Z Hs G' H' vs es
  | _, _, .nil => .nil
  | _, _, .cons a b => .cons (a.ext x) (b.ext x)
theorem EVs.start {K : KC} {Z : Ent} {Hs Hs' G H : Hp} (x : Sub Hs' Hs) : ∀ {vs : List V} {es : List EV}, EVs K Z Hs G H vs es → EVs K Z Hs' G H vs es
  | _, _, .nil => .nil
  | _, _, .cons a b => .cons (a.start x) (b.start x)
theorem da_nil : DA X C W [] mNil := ⟨PA.imp pa_nil fun σ H Q ⟨Z, G, env, er, q⟩ => q [] G H (.refl er.sub) .nil⟩
theorem da_cons {e : Expr} {es : List Expr} {m : Env → Rz EV} {r : Env → Rz (List EV)} (h : DE X C W e m) (hr : DA X C W es r) (hs : starEach (e :: es) X.env = (false, eval e X.env) :: starEach es X.env := by rfl) : DA X C W (e :: es) (mCons m r) :=
  ⟨PA.imp (pa_cons h.pe hr.pa hs) fun σ H Q ⟨Z, G, env, er, q⟩ => by
    unfold mCons at q
    refine ⟨Z, G, env, er, ?_⟩
    cases ha : m env with
    | stuck => rw [ha] at q; exact q.elim
    | exc e => rw [ha] at q; exact q
    | ok a =>
      rw [ha] at q
      simp only [Rz.ok_bind] at q
      intro v G1 H1 x1 va
      obtain ⟨G2, x2, s2, va2⟩ := va.fr x1 .refl
      refine ⟨Z, G2, env, er.ext x2, ?_⟩
      cases hb : r env with
      | stuck => rw [hb] at q; exact q.elim
      | exc e => rw [hb] at q; exact fun cls d G' H' x3 => q cls d G' H' (x2.trans x3)
      | ok b => rw [hb] at q; exact fun vs G' H' x3 vb => q (v :: vs) G' H' (x2.trans x3) (.cons (va2.ext x3) (vb.start x2.h))⟩
def allFz : List EV → Option (List D)
  | [] => some []
  | .fz d :: r => (allFz r).map (d :: ·)
  | _ :: _ => none
@[simp] theorem allFz_nil : allFz [] = some [] := rfl
@[simp] theorem allFz_fz (d : D) (r : List EV) : allFz (.fz d :: r) = (allFz r).map (d :: ·) := rfl
theorem allFz_ok {K : KC} {Z : Ent} {Hs G H : Hp} : ∀ {evs : List EV} {vs : List V} {ds : List D}, allFz evs = some ds → EVs K Z Hs G H vs evs → Reps K G vs ds
  | [], _, _, e, .nil => by cases e; exact .nil
  | .fz d :: r, _, ds, e, .cons a b => by
    rw [allFz_fz] at e
    cases q : allFz r with
    | none => rw [q] at e; cases e
    | some es => rw [q] at e; cases e; exact .cons a (allFz_ok q b)
  | .ow _ _ :: _, _, _, e, _ => by cases e
def mTup (a : Env → Rz (List EV)) : Env → Rz EV := fun env => a env >>= fun xs => orStuck (allFz xs) >>= fun ds => if ds.length ≤ sizeLine then .ok (.fz (.tup ds)) else .stuck
def mLst (a : Env → Rz (List EV)) : Env → Rz EV := fun env => a env >>= fun xs => orStuck (allFz xs) >>= fun ds => if ds.length ≤ sizeLine then .ok (.ow true (.lst ds)) else .stuck
theorem tA_seq {ma : Env → Rz (List EV)} {f : List EV → Env → Rz EV} {σ : L2.St} {H : Hp} {Q : VK} (h : tE (kc X C) W (fun env => ma env >>= fun x => f x env) σ H Q)
    {R : List V → Hp → Prop} (hR : ∀ (Z : Ent) (G1 H1 : Hp) (env : Env) (vs : List V) (a : List EV), ER (kc X C) Z G1 H1 σ env → EVs (kc X C) Z H G1 H1 vs a → Sub H H1 →
      (match f a env with
        | .ok ev => ∀ v G' H', Ext G1 H1 G' H' → EVok (kc X C) Z H1 G' H' v ev → Q v H'
        | .exc e => ∀ cls d G' H', Ext G1 H1 G' H' → ExcOk (kc X C) G' H' cls d e → W cls d σ H'
        | .stuck => False) → R vs H1) : tA (kc X C) W ma σ H R := by
  obtain ⟨Z, G, env, er, q⟩ := h
  refine ⟨Z, G, env, er, ?_⟩
  cases ha : ma env with
  | stuck => simp only [ha] at q; exact q.elim
  | exc e => simp only [ha] at q; exact q
  | ok a =>
    simp only [ha, Rz.ok_bind] at q
    refine fun v G1 H1 x1 va => hR Z G1 H1 env v a (er.ext x1) va x1.h ?_
    cases hb : f a env with
    | stuck => rw [hb] at q; exact q.elim
    | exc e => rw [hb] at q; exact fun cls d G' H' x2 => q cls d G' H' (x1.trans x2)
    | ok b => rw [hb] at q; exact fun v G' H' x2 vb => q v G' H' (x1.trans x2) (vb.start x1.h)
theorem disp_inv {xs : List EV} {F : List D → EV} {P : Rz EV → Prop} (hs : P .stuck → False) (h : P (orStuck (allFz xs) >>= fun ds => if ds.length ≤ sizeLine then .ok (F ds) else .stuck)) : ∃ ds, allFz xs = some ds ∧ ds.length ≤ sizeLine ∧ P (.ok (F ds)) := by
  cases q : allFz xs with
  | none => rw [q] at h; exact (hs h).elim
  | some ds =>
    rw [q] at h
    simp only [orStuck_some, Rz.ok_bind] at h
    by_cases z : ds.length ≤ sizeLine
    · rw [if_pos z] at h; exact ⟨ds, rfl, z, h⟩
    · rw [if_neg z] at h; exact (hs h).elim
theorem de_tup {es : List Expr} {x1} {pos : Pos} {a : Env → Rz (List EV)} (h : DA X C W es a) : DE X C W (.Tuple es x1 pos) (mTup a) :=
  ⟨PE.imp (pe_tup h.pa) fun σ H Q h => tA_seq (f := fun xs _ => orStuck (allFz xs) >>= fun ds => if ds.length ≤ sizeLine then .ok (.fz (.tup ds)) else .stuck) h fun Z G1 H1 env vs a er va hs q => by
    obtain ⟨ds, h1, h2, q⟩ := disp_inv (F := fun ds => EV.fz (.tup ds)) (P := fun r => match r with
        | .ok ev => ∀ v G' H', Ext G1 H1 G' H' → EVok (kc X C) Z H1 G' H' v ev → Q v H'
        | .exc e => ∀ cls d G' H', Ext G1 H1 G' H' → ExcOk (kc X C) G' H' cls d e → W cls d σ H'
        | .stuck => False) (fun z => z) q
    have r := allFz_ok h1 va
    refine ⟨by rw [r.length]; exact h2, fun p hp => q (.ref p) _ _ (.lay2 er.sub hp) ?_⟩
    exact .tup upd_same (r.mono (.upd (er.sub.none hp)))⟩
theorem de_lst {es : List Expr} {pos : Pos} {a : Env → Rz (List EV)} (h : DA X C W es a) : DE X C W (.List es pos) (mLst a) :=
  ⟨PE.imp (pe_lst h.pa) fun σ H Q h => tA_seq (f := fun xs _ => orStuck (allFz xs) >>= fun ds => if ds.length ≤ sizeLine then .ok (.ow true (.lst ds)) else .stuck) h fun Z G1 H1 env vs a er va hs q => by
    obtain ⟨ds, h1, h2, q⟩ := disp_inv (F := fun ds => EV.ow true (.lst ds)) (P := fun r => match r with
        | .ok ev => ∀ v G' H', Ext G1 H1 G' H' → EVok (kc X C) Z H1 G' H' v ev → Q v H'
        | .exc e => ∀ cls d G' H', Ext G1 H1 G' H' → ExcOk (kc X C) G' H' cls d e → W cls d σ H'
        | .stuck => False) (fun z => z) q
    have r := allFz_ok h1 va
    refine ⟨by rw [r.length]; exact h2, fun p hp => q (.ref p) _ _ (.lay er.sub hp) ?_⟩
    exact ⟨p, rfl, ⟨vs, upd_same, r⟩, er.sub.none hp, er.zh.none hp, fun _ => hp⟩⟩
end
end DL
namespace DL
open PySem PySem.Spec PyProof.Rows L2
section
variable {K : KC} {Z : Ent} {G H : Hp} {σ : L2.St} {env : Env}
theorem ER.upTo (er : ER K Z G H σ env) {i : Nat} (hi : i < env.length) : i < σ.length := by rw [er.len]; exact hi
theorem ER.setS (er : ER K Z G H σ env) {i : Nat} {u : Option V} {x : SL} (ok : SlotOk K G H u x)
    (gd : ∀ a, x.owns H u a → G a = none ∧ Z.H a = none ∧ ∀ (j : Nat) (y : SL) (v : Option V), j ≠ i → env[j]? = some y → σ[j]? = some v → ¬ y.owns H v a) : ER K Z G H (σ.set i u) (env.set i x) := by
  have key : ∀ {j : Nat} {y : SL} {v : Option V}, (env.set i x)[j]? = some y → (σ.set i u)[j]? = some v → (j = i ∧ y = x ∧ v = u) ∨ (j ≠ i ∧ env[j]? = some y ∧ σ[j]? = some v) := fun {j y v} e1 e2 => by
    by_cases hj : i = j
    · subst hj
      have hl : i < env.length := by
        have := (List.getElem?_eq_some_iff.mp e1).1
        simpa using this
      rw [List.getElem?_set_self hl] at e1
      rw [List.getElem?_set_self (er.upTo hl)] at e2
      cases e1; cases e2
      exact .inl ⟨rfl, rfl, rfl⟩
    · rw [List.getElem?_set_ne hj] at e1 e2
      exact .inr ⟨fun h => hj h.symm, e1, e2⟩
  refine ⟨by simpa using er.len, er.zg, er.zh, er.zzz, er.sub, er.new, fun j y e => ?_, fun j y v q e1 e2 o => ?_, fun j k y z v w q e1 e2 o1 e3 e4 o2 => ?_⟩
  · by_cases hj : i = j
    · subst hj
      have hl : i < env.length := by
        have := (List.getElem?_eq_some_iff.mp e).1
        simpa using this
      rw [List.getElem?_set_self hl] at e
      cases e
      exact ⟨_, List.getElem?_set_self (er.upTo hl), ok⟩
    · rw [List.getElem?_set_ne hj] at e ⊢
      exact er.at' j y e
  · rcases key e1 e2 with ⟨rfl, rfl, rfl⟩ | ⟨n1, f1, f2⟩
    · exact ⟨(gd q o).1, (gd q o).2.1⟩
    · exact er.own j y v q f1 f2 o
  · rcases key e1 e2 with ⟨rfl, rfl, rfl⟩ | ⟨n1, f1, f2⟩
    · rcases key e3 e4 with ⟨rfl, rfl, rfl⟩ | ⟨n2, f3, f4⟩
      · rfl
      · exact absurd o2 ((gd q o1).2.2 k z w n2 f3 f4)
    · rcases key e3 e4 with ⟨rfl, rfl, rfl⟩ | ⟨n2, f3, f4⟩
      · exact absurd o1 ((gd q o2).2.2 j y v n1 f1 f2)
      · exact er.dis j k y z v w q f1 f2 o1 f3 f4 o2
theorem ER.setV (er : ER K Z G H σ env) {i : Nat} {v : V} {d : D} (r : Rep K G v d) : ER K Z G H (σ.set i (some v)) (env.set i (.val d)) :=
  er.setS ⟨v, rfl, r⟩ fun a o => o.elim
theorem ER.setO (er : ER K Z G H σ env) {i : Nat} {p : Addr} {w : OW} (wo : WOk K G H p w) (g : G p = none) (z : Z.H p = none)
    (fr : ∀ (j : Nat) (x : SL) (v : Option V), j ≠ i → env[j]? = some x → σ[j]? = some v → ¬ x.owns H v p) : ER K Z G H (σ.set i (some (.ref p))) (env.set i (.own w)) :=
  er.setS ⟨p, rfl, wo⟩ fun a o => by
    have o : some (V.ref p) = some (V.ref a) := o
    cases o
    exact ⟨g, z, fr⟩
theorem ER.setN (er : ER K Z G H σ env) {i : Nat} {u : Option V} : ER K Z G H (σ.set i u) (env.set i .no) := er.setS trivial fun a o => o.elim
theorem ER.free (er : ER K Z G H σ env) {p : Addr} (h : H p = none) : Free H σ env p := fun i x v e1 e2 o => (er.nt e1 e2 o).no h
theorem set_same {σ : L2.St} {i : Nat} {v : Option V} (h : σ[i]? = some v) : σ.set i v = σ := by
  have hl := (List.getElem?_eq_some_iff.mp h).1
  apply List.ext_getElem?
  intro j
  by_cases hj : i = j
  · subst hj; rw [List.getElem?_set_self hl, h]
  · rw [List.getElem?_set_ne hj]
theorem ER.repl (er : ER K Z G H σ env) {G' H' : Hp} {i : Nat} {x y : SL} {v : Option V} (hi : env[i]? = some x) (hs : σ[i]? = some v) (g : Sub G G') (zh : Sub Z.H H') (s : Sub G' H') (new : ∀ a, G' a ≠ none → Z.G a = none → ¬ NT Z.H a) (tp : TupS H H')
    (same : ∀ a, NT H a → ¬ x.owns H v a → (∀ o, H a = some o → H' a = some o) ∧ (G a = none → G' a = none)) (ok : SlotOk K G' H' v y) (gd : ∀ a, y.owns H' v a → G' a = none ∧ Z.H a = none ∧ (x.owns H v a ∨ Free H σ env a)) : ER K Z G' H' σ (env.set i y) := by
  have hl : i < env.length := (List.getElem?_eq_some_iff.mp hi).1
  have other : ∀ {j : Nat} {z : SL} {u : Option V} {a : Addr}, j ≠ i → env[j]? = some z → σ[j]? = some u → z.owns H u a → ¬ x.owns H v a := fun {j z u a} n e1 e2 o1 o2 => n (er.dis j i z x u v a e1 e2 o1 hi hs o2)
  have e0 : ER K Z G H (σ.set i v) (env.set i .no) := er.setN
  rw [set_same hs] at e0
  have ni : ∀ {j : Nat} {z : SL}, (env.set i .no)[j]? = some z → z ≠ .no → j ≠ i ∧ env[j]? = some z := fun {j z} e hx => by
    have hj : j ≠ i := fun hj => by
      subst hj
      rw [List.getElem?_set_self hl] at e; cases e; exact hx rfl
    rw [List.getElem?_set_ne (Ne.symm hj)] at e
    exact ⟨hj, e⟩
  have kp : ∀ (j : Nat) (z : SL) (u : Option V) (a : Addr), (env.set i .no)[j]? = some z → σ[j]? = some u → z.owns H u a → (∀ o, H a = some o → H' a = some o) ∧ G' a = none := fun j z u a q1 q2 o => by
    obtain ⟨hj, q1'⟩ := ni q1 (fun hz => by subst hz; exact o)
    obtain ⟨k1, k2⟩ := same a (er.nt q1' q2 o) (other hj q1' q2 o)
    exact ⟨k1, k2 (er.own j z u a q1' q2 o).1⟩
  have e1 : ER K Z G' H' σ (env.set i .no) := e0.move g zh s new tp kp
  have e2 := e1.setS (i := i) (u := v) (x := y) ok fun a o => by
    obtain ⟨h1, h2, h3⟩ := gd a o
    refine ⟨h1, h2, fun j z u hj q1 q2 o' => ?_⟩
    rw [List.getElem?_set_ne (Ne.symm hj)] at q1
    obtain ⟨u', k1, k2⟩ := er.at' j z q1
    rw [q2] at k1; cases k1
    have q1' : (env.set i .no)[j]? = some z := by rw [List.getElem?_set_ne (Ne.symm hj)]; exact q1
    have ob := k2.back tp (fun a o => (kp j z u a q1' q2 o).1) o'
    rcases h3 with h3 | h3
    · exact other hj q1 q2 ob h3
    · exact h3 j z u q1 q2 ob
  rw [List.set_set, set_same hs] at e2
  exact e2
theorem ER.put (er : ER K Z G H σ env) {i : Nat} {w w' : OW} {p : Addr} {o : HO} (hi : env[i]? = some (.own w)) (hs : σ[i]? = some (some (.ref p))) (ho : WOk K G (upd H p o) p w') : ER K Z G (upd H p o) σ (env.set i (.own w')) := by
  obtain ⟨g, z⟩ := er.own i _ _ p hi hs rfl
  refine er.repl hi hs .refl (er.zh.updR z) (er.sub.updR g) er.new (.put (er.nt hi hs rfl)) (fun a nt no => ⟨fun o' e => ?_, id⟩) ⟨p, rfl, ho⟩ fun a oa => ?_
  · have : a ≠ p := fun h => no (by subst h; rfl)
    rw [upd_ne this]; exact e
  · have oa : some (V.ref p) = some (V.ref a) := oa
    cases oa
    exact ⟨g, z, .inl rfl⟩
theorem ER.freeze (er : ER K Z G H σ env) {i : Nat} {w : OW} (hi : env[i]? = some (.own w)) : ∃ G', Sub G G' ∧ ER K Z G' H σ (env.set i (.val w.d)) := by
  obtain ⟨v, hs, p, rfl, wo⟩ := er.at' i _ hi
  obtain ⟨g, z⟩ := er.own i _ _ p hi hs rfl
  obtain ⟨o, h5, h6⟩ := wo.freeze g
  refine ⟨upd G p o, .upd g, er.repl hi hs (.upd g) er.zh (er.sub.upd2 h5) (fun a n q => ?_) .refl (fun a nt no => ⟨fun _ e => e, fun e => ?_⟩) ⟨_, rfl, h6⟩ fun a oa => oa.elim⟩
  · by_cases ha : a = p
    · rw [ha]; exact fun nt => nt.no z
    · rw [upd_ne ha] at n; exact er.new a n q
  · have : a ≠ p := fun h => no (by subst h; rfl)
    rw [upd_ne this]; exact e
theorem ER.updF (er : ER K Z G H σ env) {p : Addr} (fr : Free H σ env p) (g : G p = none) (z : Z.H p = none) (nt : H p = none ∨ NT H p) (o : HO) : ER K Z G (L2.upd H p o) σ env := by
  refine er.move .refl (er.zh.updR z) (er.sub.updR g) er.new (nt.elim .putN .put) fun i x v a q1 q2 o' => ⟨fun o2 e => ?_, (er.own i x v a q1 q2 o').1⟩
  have : a ≠ p := fun h => fr i x v q1 q2 (by rw [← h]; exact o')
  rw [upd_ne this]; exact e
theorem ER.freeG {G1 H1 : Hp} (e1 : ER K Z G1 H1 σ env) {p : Addr} {o1 : HO} (h : H1 p = none) (s : Sub (L2.upd H1 p o1) (L2.upd H p o1)) : Free H σ env p := fun i x v q1 q2 o => by
  obtain ⟨u, h1, h2⟩ := e1.at' i x q1
  rw [q2] at h1; cases h1
  have kp : ∀ a, a ≠ p → ∀ o, H1 a = some o → H a = some o := fun a n o e => by
    have := s a o (by rw [upd_ne n]; exact e)
    rw [upd_ne n] at this; exact this
  have ne : ∀ a o, H1 a = some o → a ≠ p := fun a o e z => by subst z; rw [h] at e; cases e
  have ob := h2.back (H' := H) (fun a vs e => kp a (ne a _ e) _ e) (fun a _ o e => kp a (ne a _ e) o e) o
  exact (h2.nt ob).no h
end
section
variable {X : Cx} {C : CT} {W : WX}
def mSeq (a b : Env → Out) : Env → Out := fun env => match a env with
  | .nx e => b e
  | o => o
theorem dss_nil : DSs X C W [] Out.nx := ⟨PSs.imp pss_nil fun D σ H ⟨Z, G, env, er, q⟩ => q σ H G .refl er⟩
theorem Post.seq {K : KC} {Z : Ent} {D : Ends} {G : Hp} {o : Out} {b : Env → Out} (h : Post K W Z D G (match o with
  | .nx e => b e
  | o => o)) : Post K W Z { D with nx := tS K W b D } G o := by
  cases o with
  | nx e => exact fun σ H G' s er => ⟨Z, G', e, er, h.mono s⟩
  | bk e => exact h
  | ct e => exact h
  | ret e => exact h
  | exc e env => exact h
  | stuck => exact h
  | rtE v e => exact h
theorem dss_cons {st : Stmt} {rest : List Stmt} {a b : Env → Out} (h1 : DS X C W st a) (h2 : DSs X C W rest b) : DSs X C W (st :: rest) (mSeq a b) :=
  ⟨PSs.imp (pss_cons h1.ps h2.pss) fun D σ H ⟨Z, G, env, er, q⟩ => ⟨Z, G, env, er, Post.seq (b := b) q⟩⟩
theorem dss_one {st : Stmt} {a : Env → Out} (h1 : DS X C W st a) : DSs X C W [st] a := ⟨pss_one h1.ps⟩
def onE (m : Env → Rz EV) (f : EV → Env → Out) : Env → Out := fun env => match m env with
  | .ok ev => f ev env
  | .exc e => .exc e env
  | .stuck => .stuck
theorem onE_go {m : Env → Rz EV} {f : EV → Env → Out} {D : Ends} {σ : L2.St} {H : Hp} {R : VK} (h : tS (kc X C) W (onE m f) D σ H)
    (hR : ∀ (Z : Ent) (G1 H1 : Hp) (env : Env) (v : V) (a : EV), ER (kc X C) Z G1 H1 σ env → Sub Z.H H → Sub H H1 → EVok (kc X C) Z H G1 H1 v a → Post (kc X C) W Z D G1 (f a env) → (∀ q, H q = none → Free H1 σ env q) → R v H1) : tE (kc X C) W m σ H R := by
  obtain ⟨Z, G, env, er, q⟩ := h
  unfold onE at q
  refine ⟨Z, G, env, er, ?_⟩
  cases ha : m env with
  | stuck => rw [ha] at q; exact q.elim
  | exc e =>
    rw [ha] at q
    exact fun cls d G' H' x k => q σ H' G' cls d x.g (er.ext x) k
  | ok a =>
    rw [ha] at q
    exact fun v G1 H1 x va => hR Z G1 H1 env v a (er.ext x) er.zh x.h va (Post.mono x.g q) fun p hp => (er.free hp).ext er x
def mRet (m : Env → Rz EV) : Env → Out := onE m fun a _ => .ret a
theorem ds_ret {e : Expr} {m : Env → Rz EV} {pos : Pos} (h : DE X C W e m) : DS X C W (.Return (some e) pos) (mRet m) :=
  ⟨PS.imp (ps_ret h.pe) fun D σ H h => onE_go h fun Z G1 H1 env v a er z s va q _ => q σ env v H1 G1 H .refl er z va⟩
def stF (i : Nat) : EV → Env → Out := fun a env => match a.fr with
  | .fz d => .nx (env.set i (.val d))
  | _ => .stuck
def stO (i : Nat) : EV → Env → Out := fun a env => match a with
  | .ow true w => .nx (env.set i (.own w))
  | _ => .stuck
@[simp] theorem stF_fz (i : Nat) (d : D) (env : Env) : stF i (.fz d) env = .nx (env.set i (.val d)) := rfl
@[simp] theorem stF_new (i : Nat) (w : OW) (env : Env) : stF i (.ow true w) env = .nx (env.set i (.val w.d)) := rfl
@[simp] theorem stO_new (i : Nat) (w : OW) (env : Env) : stO i (.ow true w) env = .nx (env.set i (.own w)) := rfl
def mSetF (i : Nat) (m : Env → Rz EV) : Env → Out := onE m (stF i)
def mSetO (i : Nat) (m : Env → Rz EV) : Env → Out := onE m (stO i)
theorem frz_go {K : KC} {Z : Ent} {G H Hs : Hp} {σ : L2.St} {env : Env} {v : V} {ev : EV} (er : ER K Z G H σ env) (k : EVok K Z Hs G H v ev) (hf : ∀ q, Hs q = none → Free H σ env q) : ∃ G2, Sub G G2 ∧ ER K Z G2 H σ env ∧ EVok K Z Hs G2 H v ev.fr := by
  cases ev with
  | fz d => exact ⟨G, .refl, er, k⟩
  | ow n w =>
    cases n with
    | false => exact ⟨G, .refl, er, k⟩
    | true =>
      obtain ⟨p, rfl, h1, h2, h3, h4⟩ := k
      obtain ⟨o, h5, h6⟩ := h1.freeze h2
      have fr := hf p (h4 rfl)
      refine ⟨upd G p o, .upd h2, er.move (.upd h2) er.zh (er.sub.upd2 h5) (fun a n q => ?_) .refl (fun i x v a q1 q2 o' => ⟨fun _ e => e, ?_⟩), h6⟩
      · by_cases ha : a = p
        · rw [ha]; exact fun nt => nt.no h3
        · rw [upd_ne ha] at n; exact er.new a n q
      · have hq : a ≠ p := fun hq => fr i x v q1 q2 (by rw [← hq]; exact o')
        rw [upd_ne hq]; exact (er.own i x v a q1 q2 o').1
theorem ds_setF {i : Nat} {x : Str} {e : Expr} {m : Env → Rz EV} {pos pos' : Pos} (h : DE X C W e m) (hN : X.N.Nodup) (hi : X.N[i]? = some x := by rfl) (hx : Loc X.env.scope x := by first | exact Or.inl rfl | exact Or.inr rfl)
    (hs : swapsWith e (some (.Name x pos')) pos.line X.env = pure false := by rfl) (hf : X.fn x = true ∨ X.env.scope.names.lookup x = some .local := by first | exact .inl rfl | exact .inr rfl) : DS X C W (.Assign [.Name x pos'] e pos) (mSetF i m) :=
  ⟨PS.imp (ps_set hN hi hx h.pe hs hf) fun D σ H h => onE_go h fun Z G1 H1 env v a er z s va q fr => by
    obtain ⟨G2, s2, er2, va2⟩ := frz_go er va fr
    unfold stF at q
    cases ha : a.fr with
    | ow n w => rw [ha] at q; exact q.elim
    | fz d =>
      rw [ha] at q va2
      exact q _ H1 G2 s2 (er2.setV va2)⟩
theorem ds_setO {i : Nat} {x : Str} {e : Expr} {m : Env → Rz EV} {pos pos' : Pos} (h : DE X C W e m) (hN : X.N.Nodup) (hi : X.N[i]? = some x := by rfl) (hx : Loc X.env.scope x := by first | exact Or.inl rfl | exact Or.inr rfl)
    (hs : swapsWith e (some (.Name x pos')) pos.line X.env = pure false := by rfl) (hf : X.fn x = true ∨ X.env.scope.names.lookup x = some .local := by first | exact .inl rfl | exact .inr rfl) : DS X C W (.Assign [.Name x pos'] e pos) (mSetO i m) :=
  ⟨PS.imp (ps_set hN hi hx h.pe hs hf) fun D σ H h => onE_go h fun Z G1 H1 env v a er z s va q fr => by
    unfold stO at q
    split at q
    · rename_i w
      obtain ⟨p, rfl, h1, h2, h3, h4⟩ := va
      exact q _ H1 G1 .refl (er.setO h1 h2 h3 fun j x v _ e1 e2 => fr p (h4 rfl) j x v e1 e2)
    · exact q.elim⟩
def mFrz (i : Nat) (m : Env → Out) : Env → Out := fun env => match env.getD i .no with
  | .own w => m (env.set i (.val w.d))
  | _ => m env
theorem frz_ghost {m : Env → Out} {i : Nat} {D : Ends} {σ : L2.St} {H : Hp} (h : tS (kc X C) W (mFrz i m) D σ H) : tS (kc X C) W m D σ H := by
  obtain ⟨Z, G, env, er, q⟩ := h
  unfold mFrz at q
  split at q
  · rename_i w hw
    obtain ⟨G2, s2, er2⟩ := er.freeze (getD_some hw (by simp))
    exact ⟨Z, G2, _, er2, q.mono s2⟩
  · exact ⟨Z, G, env, er, q⟩
theorem ds_frz (i : Nat) {st : Stmt} {m : Env → Out} (h : DS X C W st m) : DS X C W st (mFrz i m) := ⟨PS.imp h.ps fun D σ H q => frz_ghost q⟩
def mIfS (t : Env → Rz Bool) (a b : Env → Out) : Env → Out := fun env => match t env with
  | .ok c => if c = true then a env else b env
  | .exc e => .exc e env
  | .stuck => .stuck
theorem ds_if {c : Expr} {t : Env → Rz Bool} {sa sb : List Stmt} {a b : Env → Out} {pos : Pos} (hc : DT X C W c t) (ha : DSs X C W sa a) (hb : DSs X C W sb b) : DS X C W (.If c sa sb pos) (mIfS t a b) :=
  ⟨PS.imp (ps_if hc.pt ha.pss hb.pss) fun D σ H ⟨Z, G, env, er, q⟩ => by
    unfold mIfS at q
    refine ⟨Z, G, env, er, ?_⟩
    cases ht : t env with
    | stuck => rw [ht] at q; exact q.elim
    | exc e => rw [ht] at q; exact fun cls d G' H' x k => q σ H' G' cls d x.g (er.ext x) k
    | ok c =>
      rw [ht] at q
      intro G1 H1 x
      cases c with
      | true => exact ⟨Z, G1, env, er.ext x, Post.mono x.g q⟩
      | false => exact ⟨Z, G1, env, er.ext x, Post.mono x.g q⟩⟩
def tG (K : KC) (vs : List Nat) (p : D → Env → Rz Env) : TG := fun v σ H Q => ∃ Z G env d, ER K Z G H σ env ∧ Rep K G v d ∧ match p d env with
  | .ok env' => ∀ σ', ER K Z G H σ' env' → σ'.length = σ.length → (∀ i, i ∉ vs → σ'[i]? = σ[i]?) → Q σ' H
  | _ => False
structure DG (X : Cx) (C : CT) (tg : Expr) (vs : List Nat) (p : D → Env → Rz Env) : Prop where
  pg : PG X tg (tG (kc X C) vs p)
def pName (i : Nat) : D → Env → Rz Env := fun d env => .ok (env.set i (.val d))
theorem PG.imp {tg : Expr} {t t' : TG} (h : PG X tg t) (k : ∀ v σ H Q, t' v σ H Q → t v σ H Q) : PG X tg t' := ⟨fun pins s σ H v u Q I r q => h.run pins s σ H v u Q I r (k _ _ _ _ q)⟩
theorem dg_name {i : Nat} {x : Str} {pos : Pos} (hN : X.N.Nodup) (hi : X.N[i]? = some x := by rfl) (hx : Loc X.env.scope x := by first | exact Or.inl rfl | exact Or.inr rfl) (hf : X.fn x = true ∨ X.env.scope.names.lookup x = some .local := by first | exact .inl rfl | exact .inr rfl) :
    DG X C (.Name x pos) [i] (pName i) := ⟨PG.imp (pg_name hN hi hx hf) fun v σ H Q ⟨Z, G, env, d, er, r, q⟩ => q _ (er.setV r) (by simp) fun j hj => by
      rw [List.getElem?_set_ne (fun e => hj (by simp [e]))]⟩
theorem PGs.imp {tg : List Expr} {t t' : TGs} (h : PGs X tg t) (k : ∀ v σ H Q, t' v σ H Q → t v σ H Q) : PGs X tg t' := ⟨fun pins s σ H v u Q I r q => h.run pins s σ H v u Q I r (k _ _ _ _ q)⟩
structure IterOk (K : KC) (J : It) (G : Hp) (ds : List D) : Prop where
  go : ∀ (i : Nat) (G2 H2 : Hp), i < ds.length → Sub G G2 → Sub G2 H2 → J.go i H2
  stop : ∀ (G2 H2 : Hp), Sub G G2 → Sub G2 H2 → J.stop ds.length H2
  yld : ∀ (i : Nat) (x : V) (G2 H2 H3 : Hp), i < ds.length → Sub G G2 → Sub G2 H2 → J.yld i H2 x H3 → ∃ d G3, ds[i]? = some d ∧ Ext G2 H2 G3 H3 ∧ Rep K G3 x d
theorem IterOk.mono {K : KC} {J : It} {G G' : Hp} {ds : List D} (s : Sub G G') (h : IterOk K J G ds) : IterOk K J G' ds :=
  ⟨fun i G2 H2 l a b => h.go i G2 H2 l (s.trans a) b, fun G2 H2 a b => h.stop G2 H2 (s.trans a) b, fun i x G2 H2 H3 l a b y => h.yld i x G2 H2 H3 l (s.trans a) b y⟩
def tI (K : KC) (W : WX) (m : Env → Rz (List D)) : TI := fun σ H R => ∃ Z G env, ER K Z G H σ env ∧ match m env with
  | .ok ds => ∀ J G' H', Ext G H G' H' → IterOk K J G' ds → R J H'
  | .exc e => ∀ cls d G' H', Ext G H G' H' → ExcOk K G' H' cls d e → W cls d σ H'
  | .stuck => False
structure DI (X : Cx) (C : CT) (W : WX) (tg iter : Expr) (m : Env → Rz (List D)) : Prop where
  pi : PI X tg iter (tI (kc X C) W m)
theorem PI.imp {tg iter : Expr} {t t' : TI} (h : PI X tg iter t) (k : ∀ σ H Q, t' σ H Q → t σ H Q) : PI X tg iter t' := ⟨fun pins s σ H Q I q => h.run pins s σ H Q I (k _ _ _ q)⟩
def items : D → Rz (List D)
  | .lst ds => .ok ds
  | .tup ds => .ok ds
  | .scr ns => .ok (ns.map .int)
  | .str x => .ok (x.cps.toList.map fun c => .str ⟨#[c]⟩)
  | .dct _ true kvs => .ok (kvs.map (·.1))
  | _ => .stuck
@[simp] theorem items_dct (t : Bool) (kvs : List (D × D)) : items (.dct t true kvs) = .ok (kvs.map (·.1)) := by cases t <;> rfl
@[simp] theorem items_lst (ds : List D) : items (.lst ds) = .ok ds := rfl
@[simp] theorem items_tup (ds : List D) : items (.tup ds) = .ok ds := rfl
@[simp] theorem items_scr (ns : List Int) : items (.scr ns) = .ok (ns.map .int) := rfl
@[simp] theorem items_str (x : Str) : items (.str x) = .ok (x.cps.toList.map fun c => .str ⟨#[c]⟩) := rfl
def frD : EV → Rz D := fun a => match a.fr with
  | .fz d => .ok d
  | _ => .stuck
@[simp] theorem frD_fz (d : D) : frD (.fz d) = .ok d := rfl
@[simp] theorem frD_new (w : OW) : frD (.ow true w) = .ok w.d := rfl
def mItems (m : Env → Rz EV) : Env → Rz (List D) := fun env => m env >>= fun a => frD a >>= items
theorem itl_ok {K : KC} {a : Addr} {vs : List V} {ds : List D} {G : Hp} (sq : SqL K.K G a vs) (r : Reps K G vs ds) : IterOk K (Itl K.K a) G ds where
  go := fun i G2 H2 l a b => by
    obtain ⟨d, hd⟩ : ∃ d, ds[i]? = some d := ⟨_, List.getElem?_eq_getElem l⟩
    obtain ⟨v, hv, _⟩ := r.get hd
    exact ⟨vs, v, (a.trans b).sqL sq, hv⟩
  stop := fun G2 H2 a b => ⟨vs, (a.trans b).sqL sq, by rw [r.length]; exact Nat.le_refl _⟩
  yld := fun i x G2 H2 H3 l a b y => by
    obtain ⟨rfl, y⟩ := y
    obtain ⟨d, hd⟩ : ∃ d, ds[i]? = some d := ⟨_, List.getElem?_eq_getElem l⟩
    obtain ⟨v, hv, rv⟩ := r.get hd
    have := y vs ((a.trans b).sqL sq)
    rw [hv] at this; cases this
    exact ⟨d, G2, hd, .refl b, rv.mono a⟩
theorem itt_ok {K : KC} {a : Addr} {vs : List V} {ds : List D} {G : Hp} (sq : SqT K.K G a vs) (r : Reps K G vs ds) : IterOk K (Itt K.K a) G ds where
  go := fun i G2 H2 l a b => by
    obtain ⟨d, hd⟩ : ∃ d, ds[i]? = some d := ⟨_, List.getElem?_eq_getElem l⟩
    obtain ⟨v, hv, _⟩ := r.get hd
    exact ⟨vs, v, (a.trans b).sqT sq, hv⟩
  stop := fun G2 H2 a b => ⟨vs, (a.trans b).sqT sq, by rw [r.length]; exact Nat.le_refl _⟩
  yld := fun i x G2 H2 H3 l a b y => by
    obtain ⟨rfl, y⟩ := y
    obtain ⟨d, hd⟩ : ∃ d, ds[i]? = some d := ⟨_, List.getElem?_eq_getElem l⟩
    obtain ⟨v, hv, rv⟩ := r.get hd
    have := y vs ((a.trans b).sqT sq)
    rw [hv] at this; cases this
    exact ⟨d, G2, hd, .refl b, rv.mono a⟩
theorem its_ok {K : KC} {x : Str} {G : Hp} : IterOk K (Its x) G (x.cps.toList.map fun c => .str ⟨#[c]⟩) where
  go := fun i G2 H2 l a b => by show i < x.cps.size; simpa using l
  stop := fun G2 H2 a b => by show x.cps.size ≤ _; simp
  yld := fun i v G2 H2 H3 l a b y => by
    obtain ⟨rfl, c, hc, rfl⟩ := y
    refine ⟨.str ⟨#[c]⟩, G2, ?_, .refl b, .str _⟩
    rw [List.getElem?_map]
    have : x.cps.toList[i]? = some c := by simpa using hc
    rw [this]; rfl
theorem RepK.at' {K : KC} {G : Hp} : ∀ {kvs : List (Key × V)} {ds : List (D × D)} {i : Nat} {k : Key} {v : V}, RepK K G kvs ds → kvs[i]? = some (k, v) → ∃ d, ds[i]? = some (dkV k, d) ∧ Rep K G v d
  | _, _, _, _, _, .nil, e => by simp at e
  | _, _, 0, _, _, .cons a _, e => by simp only [List.getElem?_cons_zero, Option.some.injEq, Prod.mk.injEq] at e; obtain ⟨rfl, rfl⟩ := e; exact ⟨_, rfl, a⟩
  | _, _, i + 1, _, _, .cons _ b, e => by
    obtain ⟨d, h1, h2⟩ := RepK.at' (i := i) b (by simpa using e)
    exact ⟨d, by simpa using h1, h2⟩
theorem RepT.at' {K : KC} {G : Hp} : ∀ {kvs : List (List Key × V)} {ds : List (D × D)} {i : Nat} {k : List Key} {v : V}, RepT K G kvs ds → kvs[i]? = some (k, v) → ∃ d, ds[i]? = some (.tup (k.map dkV), d) ∧ Rep K G v d
  | _, _, _, _, _, .nil, e => by simp at e
  | _, _, 0, _, _, .cons a _, e => by simp only [List.getElem?_cons_zero, Option.some.injEq, Prod.mk.injEq] at e; obtain ⟨rfl, rfl⟩ := e; exact ⟨_, rfl, a⟩
  | _, _, i + 1, _, _, .cons _ b, e => by
    obtain ⟨d, h1, h2⟩ := RepT.at' (i := i) b (by simpa using e)
    exact ⟨d, by simpa using h1, h2⟩
theorem RepK.len {K : KC} {G : Hp} : ∀ {kvs : List (Key × V)} {ds : List (D × D)}, RepK K G kvs ds → kvs.length = ds.length
  | _, _, .nil => rfl
  | _, _, .cons _ b => congrArg Nat.succ b.len
theorem RepT.len {K : KC} {G : Hp} : ∀ {kvs : List (List Key × V)} {ds : List (D × D)}, RepT K G kvs ds → kvs.length = ds.length
  | _, _, .nil => rfl
  | _, _, .cons _ b => congrArg Nat.succ b.len
theorem rep_kV {K : KC} {G : Hp} (k : Key) : Rep K G (kV k) (dkV k) := by cases k <;> constructor
theorem reps_kV {K : KC} {G : Hp} : ∀ ks : List Key, Reps K G (ks.map kV) (ks.map dkV)
  | [] => .nil
  | k :: r => .cons (rep_kV k) (reps_kV r)
theorem Ext.tup {G H : Hp} (s : Sub G H) {q : Addr} {vs : List V} (h : H q = some (.tup vs)) : Ext G H (upd G q (.tup vs)) H := by
  refine ⟨fun a u e => ?_, .refl, s.upd2 h, fun a e n => ?_⟩
  · by_cases z : a = q
    · subst z
      have := s a u e
      rw [h] at this
      cases this
      exact upd_same
    · rw [upd_ne z]; exact e
  · have z : a ≠ q := fun z => by
      subst z
      obtain ⟨o, k1, k2⟩ := n
      rw [h] at k1
      cases k1
      cases k2
    rw [upd_ne z]; exact e
theorem itk_ok {K : KC} {a : Addr} {o : Obj} {kvs : List (Key × V)} {ds : List (D × D)} {G : Hp} (sq : G a = some (.frz o (.dK kvs))) (r : RepK K G kvs ds) : IterOk K (Itk a o kvs) G (ds.map (·.1)) where
  go := fun i G2 H2 l a' b => ⟨b _ _ (a' _ _ sq), by rw [r.len]; simpa using l⟩
  stop := fun G2 H2 a' b => ⟨b _ _ (a' _ _ sq), by rw [r.len, List.length_map]; exact Nat.le_refl _⟩
  yld := fun i x G2 H2 H3 l a' b y => by
    obtain ⟨rfl, k, v, e, rfl⟩ := y
    obtain ⟨d, h1, _⟩ := r.at' e
    exact ⟨dkV k, G2, by rw [List.getElem?_map, h1]; rfl, .refl b, rep_kV k⟩
theorem itkt_ok {K : KC} {a : Addr} {o : Obj} {kvs : List (List Key × V)} {ds : List (D × D)} {G : Hp} (sq : G a = some (.frz o (.dT kvs))) (r : RepT K G kvs ds) : IterOk K (Itkt a o kvs) G (ds.map (·.1)) where
  go := fun i G2 H2 l a' b => ⟨b _ _ (a' _ _ sq), by rw [r.len]; simpa using l⟩
  stop := fun G2 H2 a' b => ⟨b _ _ (a' _ _ sq), by rw [r.len, List.length_map]; exact Nat.le_refl _⟩
  yld := fun i x G2 H2 H3 l a' b y => by
    obtain ⟨rfl, k, v, q, e, rfl, hq⟩ := y
    obtain ⟨d, h1, _⟩ := r.at' e
    exact ⟨.tup (k.map dkV), upd G2 q (.tup (k.map kV)), by rw [List.getElem?_map, h1]; rfl, .tup b hq, .tup upd_same (reps_kV k)⟩
def iSeq (K : PySem.W.Frag) (tl : TE) : TI := fun σ H R => tl σ H fun x H1 => (∃ a xs, x = .ref a ∧ SqL K H1 a xs ∧ R (Itl K a) H1) ∨ (∃ a xs, x = .ref a ∧ SqT K H1 a xs ∧ R (Itt K a) H1) ∨ (∃ y, x = .str y ∧ R (Its y) H1) ∨ (∃ d o, x = .ref d ∧ ((∃ kvs, H1 d = some (.frz o (.dK kvs)) ∧ R (Itk d o kvs) H1) ∨ ∃ kvs, H1 d = some (.frz o (.dT kvs)) ∧ R (Itkt d o kvs) H1))
theorem pi_seq {tg l : Expr} {tl : TE} (hl : PE X l tl) : PI X tg l (iSeq X.K tl) := by
  refine ⟨fun pins s σ H R I h => ?_⟩
  refine thn (hl.run pins s σ H _ I h) fun v s1 ⟨x, H1, I1, r1, q1⟩ => ?_
  rcases q1 with ⟨a, xs, e, hq, q⟩ | ⟨a, xs, e, hq, q⟩ | ⟨y, e, q⟩ | ⟨d, o, e, q⟩
  · subst e
    cases r1
    obtain ⟨its, rv, p, hz⟩ := I1.list hq
    refine wpAny_pyIter_list p.isList ?_
    refine ⟨s1.heap.objs.size, [s1.heap.objs.size], _, _, H1, rfl, I1.kept (t' := s1.toks) fun b o e => Heap.get?_push_of_some _ e, turn_list a _, ⟨_, Heap.get?_push_size _ rfl, rfl, rfl⟩, fun b hb => ?_, q⟩
    have e : b = s1.heap.objs.size := by simpa using hb
    subst e
    exact I1.fpOk (Nat.le_refl _) (I1.hok.fresh (Nat.le_refl _))
  · subst e
    cases r1
    obtain ⟨its, rv, p, hz⟩ := I1.tuple hq
    refine wpAny_pyIter_tuple (show s1.heap.IsTuple a its.toArray from p) ?_
    refine ⟨s1.heap.objs.size, [s1.heap.objs.size], _, _, H1, rfl, I1.kept (t' := s1.toks) fun b o e => Heap.get?_push_of_some _ e, turn_tuple a _, ⟨_, Heap.get?_push_size _ rfl, rfl, rfl⟩, fun b hb => ?_, q⟩
    have e : b = s1.heap.objs.size := by simpa using hb
    subst e
    exact I1.fpOk (Nat.le_refl _) (I1.hok.fresh (Nat.le_refl _))
  · subst e
    obtain ⟨t, rfl⟩ := r1
    cases ha : y.cps.all (· < 128)
    · exact wpAny_pyIter_wide ha (pi_one (tk := s1.toks) I1 _ (turn_str _ y t "str_iterator" (.inr rfl)) ⟨_, Heap.get?_push_size _ rfl, rfl, rfl⟩ q)
    · exact wpAny_pyIter_ascii ha (pi_one (tk := s1.toks) I1 _ (turn_str _ y t "str_ascii_iterator" (.inl rfl)) ⟨_, Heap.get?_push_size _ rfl, rfl, rfl⟩ q)
  · subst e
    obtain rfl : v = Value.ref d := r1
    rcases q with ⟨kvs, hd, q⟩ | ⟨kvs, hd, q⟩
    · obtain ⟨hs, hgd, hx, es, ep, vs, hdt, hsz, kv, hm⟩ := I1.frzK hd
      refine iter_keys hs hgd hx hdt (pi_one (tk := s1.toks) I1 _ (turn_keys _ hdt) ⟨_, Heap.get?_push_size _ rfl, rfl, ?_⟩ q)
      rw [hsz] <;> rfl
    · obtain ⟨hs, hgd, hx, es, ep, hdt, hsz, ent⟩ := I1.frzT hd
      refine iter_keys hs hgd hx hdt (pi_one (tk := s1.toks) I1 _ (turn_keysT _ hdt) ⟨_, Heap.get?_push_size _ rfl, rfl, ?_⟩ q)
      rw [hsz] <;> rfl
end
end DL
namespace DL
open PySem PySem.Spec PyProof.Rows L2
section
variable {X : Cx} {C : CT} {W : WX}
theorem frD_ok {a : EV} {d : D} (h : frD a = .ok d) : a.fr = .fz d := by
  unfold frD at h
  split at h
  · rename_i d' e; cases h; exact e
  · cases h
theorem frD_exc {a : EV} {e : Exn} : frD a ≠ .exc e := by
  unfold frD; split <;> simp
theorem items_exc {d : D} {e : Exn} : items d ≠ .exc e := by
  unfold items; split <;> simp
theorem di_seq {tg e : Expr} {m : Env → Rz EV} (h : DE X C W e m) : DI X C W tg e (mItems m) :=
  ⟨PI.imp (pi_seq h.pe) fun σ H R ⟨Z, G, env, er, q⟩ => by
    unfold mItems at q
    refine ⟨Z, G, env, er, ?_⟩
    cases ha : m env with
    | stuck => rw [ha] at q; exact q.elim
    | exc e => rw [ha] at q; exact q
    | ok a =>
      rw [ha] at q
      simp only [Rz.ok_bind] at q
      intro v G1 H1 x1 va
      obtain ⟨G2, x2, s2, va2⟩ := va.fr x1 .refl
      cases hd : frD a with
      | stuck => rw [hd] at q; exact q.elim
      | exc e => exact absurd hd frD_exc
      | ok d =>
        rw [hd] at q
        simp only [Rz.ok_bind] at q
        rw [frD_ok hd] at va2
        have va3 : Rep (kc X C) G2 v d := va2
        cases hi : items d with
        | stuck => rw [hi] at q; exact q.elim
        | exc e => exact absurd hi items_exc
        | ok ds =>
          rw [hi] at q
          cases va3 with
          | @lst a vs ds' sq rs =>
            cases hi
            exact .inl ⟨a, vs, rfl, .of (x2.s _ _ sq), q _ G2 H1 x2 (itl_ok (.of sq) rs)⟩
          | @tup a vs ds' sq rs =>
            cases hi
            exact .inr (.inl ⟨a, vs, rfl, .of (x2.s _ _ sq), q _ G2 H1 x2 (itt_ok (.of sq) rs)⟩)
          | @scr a ns sq =>
            cases hi
            exact .inl ⟨a, _, rfl, x2.s.sqL sq, q _ G2 H1 x2 (itl_ok sq (Reps.ints ns))⟩
          | @str x =>
            cases hi
            exact .inr (.inr (.inl ⟨x, rfl, q _ G2 H1 x2 its_ok⟩))
          | @dk l a kvs ds' rd r =>
            cases l with
            | false => cases hi
            | true =>
              cases hi
              obtain ⟨o, e⟩ := rd.lk
              exact .inr (.inr (.inr ⟨a, o, rfl, .inl ⟨kvs, x2.s _ _ e, q _ G2 H1 x2 (itk_ok e r)⟩⟩))
          | @dt l a kvs ds' rd r =>
            cases l with
            | false => cases hi
            | true =>
              cases hi
              obtain ⟨o, e⟩ := rd.lk
              exact .inr (.inr (.inr ⟨a, o, rfl, .inr ⟨kvs, x2.s _ _ e, q _ G2 H1 x2 (itkt_ok e r)⟩⟩))
          | _ => cases hi⟩
theorem p62 : (2 : Int) ^ 62 = 4611686018427387904 := by decide +kernel
theorem p64 : (2 : Int) ^ 64 = 18446744073709551616 := by decide +kernel
theorem abs62 {j : Int} (h : j.natAbs < 4611686018427387904) : -(2 ^ 62) ≤ j ∧ j < 2 ^ 62 := by rw [p62]; omega
def upTo (lo : Int) (n : Nat) : List D := (List.range n).map fun (i : Nat) => .int (lo + i)
def mRng1 (a : Env → Rz (List EV)) : Env → Rz (List D) := fun env => a env >>= fun xs => match xs with
  | [.fz (.int j)] => if j.natAbs < 4611686018427387904 then .ok (upTo 0 j.toNat) else .stuck
  | _ => .stuck
theorem itr_ok {K : KC} {lo : Int} {n : Nat} {G : Hp} : IterOk K (Itr lo n) G (upTo lo n) where
  go := fun i G2 H2 l a b => by show i < n; simpa [upTo] using l
  stop := fun G2 H2 a b => by show n ≤ _; simp [upTo]
  yld := fun i v G2 H2 H3 l a b y => by
    obtain ⟨rfl, rfl⟩ := y
    have hl : i < n := by simpa [upTo] using l
    refine ⟨.int (lo + i), G2, ?_, .refl b, .int _⟩
    simp [upTo, hl]
theorem evs1 {K : KC} {Z : Ent} {Hs G H : Hp} {vs : List V} {e : EV} (h : EVs K Z Hs G H vs [e]) : ∃ v, vs = [v] ∧ EVok K Z Hs G H v e := by
  cases h with
  | cons a b => cases b; exact ⟨_, rfl, a⟩
theorem evs2 {K : KC} {Z : Ent} {Hs G H : Hp} {vs : List V} {e f : EV} (h : EVs K Z Hs G H vs [e, f]) : ∃ v u, vs = [v, u] ∧ EVok K Z Hs G H v e ∧ EVok K Z Hs G H u f := by
  cases h with
  | cons a b =>
    obtain ⟨u, rfl, k⟩ := evs1 b
    exact ⟨_, u, rfl, a, k⟩
theorem rep_int {K : KC} {G : Hp} {v : V} {i : Int} (h : Rep K G v (.int i)) : v = .int i := by cases h; rfl
theorem rep_bl {K : KC} {G : Hp} {v : V} {i : Bool} (h : Rep K G v (.bl i)) : v = .bl i := by cases h; rfl
theorem rep_str {K : KC} {G : Hp} {v : V} {i : Str} (h : Rep K G v (.str i)) : v = .str i := by cases h; rfl
theorem rep_non {K : KC} {G : Hp} {v : V} (h : Rep K G v .non) : v = .non := by cases h; rfl
theorem di_range1 {tg a : Expr} {m : Env → Rz (List EV)} {p pos : Pos} (hm : X.mg "range" = none) (h : DA X C W [a] m) (hg : Gl X "range" := by rfl) (hs : starEach [a] X.env = [(false, eval a X.env)] := by rfl) :
    DI X C W tg (.Call (.Name "range" p) [a] [] pos) (mRng1 m) :=
  ⟨PI.imp (pi_range1 hg hm h.pa hs) fun σ H R ⟨Z, G, env, er, q⟩ => by
    unfold mRng1 at q
    refine ⟨Z, G, env, er, ?_⟩
    cases ha : m env with
    | stuck => rw [ha] at q; exact q.elim
    | exc e => rw [ha] at q; exact q
    | ok xs =>
      rw [ha] at q
      simp only [Rz.ok_bind] at q
      intro vs G1 H1 x1 va
      split at q
      · rename_i j heq
        split at heq
        · rename_i j'
          by_cases z : j'.natAbs < 4611686018427387904
          · rw [if_pos z] at heq
            cases heq
            obtain ⟨v, rfl, k⟩ := evs1 va
            exact ⟨j', by rw [rep_int k], (abs62 z).1, (abs62 z).2, q _ G1 H1 x1 itr_ok⟩
          · rw [if_neg z] at heq; cases heq
        · cases heq
      · rename_i e heq
        split at heq
        · split at heq <;> cases heq
        · cases heq
      · exact q.elim⟩
def forF (p : D → Env → Rz Env) (b : Env → Out) : List D → Env → Out
  | [], env => .nx env
  | d :: ds, env => match p d env with
    | .ok e => (match b e with
      | .nx e' => forF p b ds e'
      | .ct e' => forF p b ds e'
      | .bk e' => .nx e'
      | o => o)
    | _ => .stuck
def mFor (it : Env → Rz (List D)) (p : D → Env → Rz Env) (b : Env → Out) : Env → Out := fun env => match it env with
  | .ok ds => forF p b ds env
  | .exc e => .exc e env
  | .stuck => .stuck
theorem ds_for {tg iter : Expr} {body : List Stmt} {it : Env → Rz (List D)} {vs : List Nat} {p : D → Env → Rz Env} {b : Env → Out} {pos : Pos} (hp : PassesOwn (model X.prog X.w) X.A X.env X.xe) (hi : DI X C W tg iter it) (hg : DG X C tg vs p) (hb : DSs X C W body b) (hc : X.calm = true := by rfl)
    (hs : ∀ x, foldedSetIterable iter X.env x = pure x := by intro _; rfl) : DS X C W (.For tg iter body [] pos) (mFor it p b) :=
  ⟨PS.imp (ps_for hp hc hi.pi hg.pg hb.pss hs) fun D σ H ⟨Z, G, env, er, q⟩ => by
    unfold mFor at q
    refine ⟨Z, G, env, er, ?_⟩
    cases hit : it env with
    | stuck => rw [hit] at q; exact q.elim
    | exc e => rw [hit] at q; exact fun cls d G' H' x k => q σ H' G' cls d x.g (er.ext x) k
    | ok ds =>
      rw [hit] at q
      intro J G1 H1 x1 io
      refine ⟨fun i m σ' H' => m + i = ds.length ∧ ∃ G' env', Sub G1 G' ∧ ER (kc X C) Z G' H' σ' env' ∧ Post (kc X C) W Z D G' (forF p b (ds.drop i) env'), ⟨ds.length, rfl, G1, env, .refl, er.ext x1, Post.mono x1.g q⟩, ?_⟩
      rintro i m σ' H' ⟨hm, G2, env2, s2, er2, q2⟩
      by_cases hl : i < ds.length
      · refine .inr ⟨io.go i G2 H' hl s2 er2.sub, fun σ3 H3 => ∃ G3 env3, Sub G1 G3 ∧ ER (kc X C) Z G3 H3 σ3 env3 ∧ Post (kc X C) W Z D G3 (forF p b (ds.drop (i + 1)) env3), fun σ3 H3 ⟨G3, env3, a, b', c⟩ => ⟨m - 1, by omega, by omega, G3, env3, a, b', c⟩, fun x H3 y => ?_⟩
        obtain ⟨d, G3, hd, x3, rd⟩ := io.yld i x G2 H' H3 hl s2 er2.sub y
        have hdrop : ds.drop i = d :: ds.drop (i + 1) := by
          obtain ⟨hl', e⟩ := List.getElem?_eq_some_iff.mp hd
          rw [List.drop_eq_getElem_cons hl', e]
        rw [hdrop] at q2
        unfold forF at q2
        refine ⟨Z, G3, env2, d, er2.ext x3, rd, ?_⟩
        cases hpd : p d env2 with
        | stuck => rw [hpd] at q2; exact q2.elim
        | exc e => rw [hpd] at q2; exact q2.elim
        | ok e =>
          rw [hpd] at q2
          dsimp only at q2
          intro σ4 er4 _ _
          refine ⟨Z, G3, e, er4, ?_⟩
          have q2 := Post.mono x3.g q2
          have s13 : Sub G1 G3 := s2.trans x3.g
          cases hbe : b e with
          | nx e' => rw [hbe] at q2; exact fun σ5 H5 G5 s5 er5 => ⟨G5, e', s13.trans s5, er5, Post.mono s5 q2⟩
          | ct e' => rw [hbe] at q2; exact fun σ5 H5 G5 s5 er5 => ⟨G5, e', s13.trans s5, er5, Post.mono s5 q2⟩
          | bk e' => rw [hbe] at q2; exact q2
          | ret ev => rw [hbe] at q2; exact q2
          | rtE ev e' => rw [hbe] at q2; exact q2
          | exc e' en => rw [hbe] at q2; exact q2
          | stuck => rw [hbe] at q2; exact q2
      · have e : i = ds.length := by omega
        subst e
        rw [List.drop_length] at q2
        exact .inl ⟨io.stop G2 H' s2 er2.sub, q2 σ' H' G2 .refl er2⟩⟩
def lcF (p : D → Env → Rz Env) (t : Env → Rz Bool) (e : Env → Rz EV) (env : Env) : List D → List D → Rz (List D)
  | [], acc => .ok acc
  | d :: ds, acc => match p d env with
    | .ok en => (match t en with
      | .ok true => (match e en with
        | .ok ev => (match ev.fr with
          | .fz y => if acc.length < sizeLine then lcF p t e env ds (acc ++ [y]) else .stuck
          | _ => .stuck)
        | _ => .stuck)
      | .ok false => lcF p t e env ds acc
      | _ => .stuck)
    | _ => .stuck
def wipeE (env : Env) : List Nat → Env
  | [] => env
  | v :: vs => (wipeE env vs).set v .no
def mLc (it : Env → Rz (List D)) (p : D → Env → Rz Env) (t : Env → Rz Bool) (e : Env → Rz EV) (vs : List Nat) : Env → Rz EV := fun env => it env >>= fun ds => match lcF p t e (wipeE env vs) ds [] with
  | .ok out => .ok (.ow true (.lst out))
  | _ => .stuck
theorem ER.wipe {K : KC} {Z : Ent} {G H : Hp} {σ : L2.St} {env : Env} (er : ER K Z G H σ env) : ∀ vs : List Nat, ER K Z G H (L2.wipe σ vs) (wipeE env vs)
  | [] => er
  | v :: vs => (er.wipe vs).setN
theorem wipe_in (σ : L2.St) : ∀ {vs : List Nat} {i : Nat}, i ∈ vs → i < σ.length → (L2.wipe σ vs)[i]? = some none
  | v :: vs, i, h, l => by
    unfold L2.wipe
    by_cases e : v = i
    · subst e
      rw [List.getElem?_set_self (by rw [L2.wipe_length]; exact l)]
    · rw [List.getElem?_set_ne e]
      exact wipe_in σ (by rcases List.mem_cons.mp h with z | z; exact absurd z.symm e; exact z) l
theorem wipe_out (σ : L2.St) : ∀ {vs : List Nat} {i : Nat}, i ∉ vs → (L2.wipe σ vs)[i]? = σ[i]?
  | [], i, h => rfl
  | v :: vs, i, h => by
    unfold L2.wipe
    rw [List.mem_cons, not_or] at h
    rw [List.getElem?_set_ne (Ne.symm h.1)]
    exact wipe_out σ h.2
theorem wipe_eq {σ σ' : L2.St} {vs us : List Nat} (hl : σ'.length = (L2.wipe σ vs).length) (hu : ∀ i ∈ us, i ∈ vs) (h : ∀ i, i ∉ us → σ'[i]? = (L2.wipe σ vs)[i]?) : L2.wipe σ' vs = L2.wipe σ vs := by
  apply List.ext_getElem?
  intro i
  by_cases hi : i ∈ vs
  · by_cases hl2 : i < σ.length
    · rw [wipe_in σ hi hl2, wipe_in σ' hi (by rw [hl, L2.wipe_length]; exact hl2)]
    · rw [List.getElem?_eq_none (by rw [L2.wipe_length, hl, L2.wipe_length]; omega), List.getElem?_eq_none (by rw [L2.wipe_length]; omega)]
  · rw [wipe_out σ' hi, h i fun z => hi (hu i z)]
structure DTs (X : Cx) (C : CT) (W : WX) (es : List Expr) (m : Env → Rz Bool) : Prop where
  pts : PTs X es (tT (kc X C) W m)
theorem PTs.imp {es : List Expr} {t t' : TT} (h : PTs X es t) (k : ∀ σ H Q, t' σ H Q → t σ H Q) : PTs X es t' := ⟨fun pins s σ H Q I q => h.run pins s σ H Q I (k _ _ _ q)⟩
def mYes : Env → Rz Bool := fun _ => .ok true
theorem dts_nil : DTs X C W [] mYes := ⟨PTs.imp pts_nil fun σ H Q ⟨Z, G, env, er, q⟩ => q G H (.refl er.sub)⟩
theorem dts_one {c : Expr} {t : Env → Rz Bool} (h : DT X C W c t) : DTs X C W [c] t := ⟨pts_one h.pt⟩
abbrev W0 : WX := fun _ _ _ _ => False
theorem lc_go {it : Env → Rz (List D)} {us : List Nat} {p : D → Env → Rz Env} {t : Env → Rz Bool} {e : Env → Rz EV} {vs : List Nat} {σ : L2.St} {H : Hp} {Q : VK} (hu : ∀ i ∈ us, i ∈ vs)
    (h : tE (kc X C) W (mLc it p t e vs) σ H Q) : tLc (tI (kc X C) W it) (tG (kc X C) us p) (tT (kc X C) W0 t) (tE (kc X C) W0 e) vs σ H Q := by
  obtain ⟨Z, G, env, er, q⟩ := h
  unfold mLc at q
  refine ⟨Z, G, env, er, ?_⟩
  cases hit : it env with
  | stuck => rw [hit] at q; exact q.elim
  | exc e => rw [hit] at q; exact q
  | ok ds =>
    rw [hit] at q
    simp only [Rz.ok_bind] at q
    intro J G1 H1 x1 io LD hD
    cases hlc : lcF p t e (wipeE env vs) ds [] with
    | stuck => rw [hlc] at q; exact q.elim
    | exc e => rw [hlc] at q; exact q.elim
    | ok out =>
      rw [hlc] at q
      dsimp only at q
      -- the heap without the new list
      refine ⟨fun i m H' => m + i = ds.length ∧ ∃ G' acc avs, Ext G1 (upd H1 LD (.lst [])) G' (upd H' LD (.lst [])) ∧ H' LD = some (.lst avs) ∧ G' LD = none ∧ Reps (kc X C) G' avs acc ∧ ER (kc X C) Z G' H' (L2.wipe σ vs) (wipeE env vs) ∧ lcF p t e (wipeE env vs) (ds.drop i) acc = .ok out,
        ⟨ds.length, rfl, G1, [], [], (by rw [upd_upd]; exact Ext.refl (x1.s.updR (x1.s.none hD))), upd_same, x1.s.none hD, .nil, ((er.ext x1).ext (.lay x1.s hD)).wipe vs, hlc⟩, ?_⟩
      rintro i m H2 ⟨hm, G2, acc, avs, x2, hl2, hg2, ra, er2, run⟩
      by_cases hl : i < ds.length
      · have s12 : Sub G1 G2 := x2.g
        refine .inr ⟨io.go i G2 H2 hl s12 er2.sub, fun H' => ∃ G' acc avs, Ext G1 (upd H1 LD (.lst [])) G' (upd H' LD (.lst [])) ∧ H' LD = some (.lst avs) ∧ G' LD = none ∧ Reps (kc X C) G' avs acc ∧ ER (kc X C) Z G' H' (L2.wipe σ vs) (wipeE env vs) ∧ lcF p t e (wipeE env vs) (ds.drop (i + 1)) acc = .ok out,
          fun H' h => ⟨m - 1, by omega, by omega, h⟩, fun x H3 y => ?_⟩
        obtain ⟨d, G3, hd, x3, rd⟩ := io.yld i x G2 H2 H3 hl s12 er2.sub y
        have hdrop : ds.drop i = d :: ds.drop (i + 1) := by
          obtain ⟨hl', e⟩ := List.getElem?_eq_some_iff.mp hd
          rw [List.drop_eq_getElem_cons hl', e]
        rw [hdrop] at run
        unfold lcF at run
        refine ⟨Z, G3, wipeE env vs, d, er2.ext x3, rd, ?_⟩
        cases hpd : p d (wipeE env vs) with
        | stuck => rw [hpd] at run; cases run
        | exc e => rw [hpd] at run; cases run
        | ok en =>
          rw [hpd] at run
          dsimp only at run
          intro σ4 er4 l4 f4
          refine ⟨wipe_eq l4 hu f4, Z, G3, en, er4, ?_⟩
          have hl3 : H3 LD = some (.lst avs) := x3.h _ _ hl2
          have hg3 : G3 LD = none := x3.n LD hg2 ⟨_, hl2, rfl⟩
          -- how the end of a turn is told
          have back : ∀ (G5 H5 : Hp), Ext G3 H3 G5 H5 → Ext G1 (upd H1 LD (.lst [])) G5 (upd H5 LD (.lst [])) ∧ H5 LD = some (.lst avs) ∧ G5 LD = none ∧ Reps (kc X C) G5 avs acc ∧ ER (kc X C) Z G5 H5 (L2.wipe σ vs) (wipeE env vs) := fun G5 H5 x5 => by
            have x25 := x3.trans x5
            have hg5 : G5 LD = none := x5.n LD hg3 ⟨_, hl3, rfl⟩
            refine ⟨⟨x2.g.trans x25.g, fun a o k => ?_, x25.s.updR hg5, fun a k n => ?_⟩, x5.h _ _ hl3, hg5, ra.mono x25.g, er2.ext x25⟩
            · by_cases ha : a = LD
              · subst ha; rw [upd_same] at k ⊢; exact k
              · have := x2.h a o k
                rw [upd_ne ha] at this ⊢
                exact x25.h a o this
            · by_cases ha : a = LD
              · rw [ha]; exact hg5
              · refine x25.n a (x2.n a k n) ?_
                have n2 := n.mono x2.h
                obtain ⟨o, e, z⟩ := n2
                rw [upd_ne ha] at e
                exact ⟨o, e, z⟩
          cases ht : t en with
          | stuck => rw [ht] at run; cases run
          | exc e => rw [ht] at run; cases run
          | ok k =>
            rw [ht] at run
            intro G5 H5 x5
            obtain ⟨b1, b2, b3, b4, b5⟩ := back G5 H5 x5
            cases k with
            | false =>
              rw [if_neg Bool.false_ne_true]
              exact ⟨G5, acc, avs, b1, b2, b3, b4, b5, run⟩
            | true =>
              rw [if_pos rfl]
              dsimp only at run
              refine ⟨Z, G5, en, er4.ext x5, ?_⟩
              cases he : e en with
              | stuck => rw [he] at run; cases run
              | exc e => rw [he] at run; cases run
              | ok ev =>
                rw [he] at run
                dsimp only at run
                intro v G6 H6 x6 v6
                obtain ⟨G7, x7, s7, v7⟩ := v6.fr x6 .refl
                cases hf : ev.fr with
                | ow n w => rw [hf] at run; cases run
                | fz y =>
                  rw [hf] at run v7
                  dsimp only at run
                  by_cases hz : acc.length < sizeLine
                  · rw [if_pos hz] at run
                    obtain ⟨c1, c2, c3, c4, c5⟩ := back G7 H6 (x5.trans x7)
                    refine ⟨avs, c2, by rw [b4.length]; exact hz, G7, acc ++ [y], avs ++ [v], ?_, upd_same, c3, c4.append (.cons v7 .nil), ?_, run⟩
                    · rw [upd_upd]; exact c1
                    · -- the slots don't see the new list
                      refine c5.updF (((er.ext x1).wipe vs).freeG hD c1.h) c3 ?_ (.inr ⟨_, c2, rfl⟩) _
                      cases z : Z.H LD with
                      | none => rfl
                      | some o =>
                        have := (er.ext x1).zh LD o z
                        rw [hD] at this; cases this
                  · rw [if_neg hz] at run; cases run
      · have e : i = ds.length := by omega
        subst e
        rw [List.drop_length] at run
        unfold lcF at run
        cases run
        refine .inl ⟨io.stop G2 H2 x2.g er2.sub, q (.ref LD) G2 H2 ?_ ⟨LD, rfl, ⟨avs, hl2, ra⟩, hg2, ?_, fun _ => x1.h |> fun s => ?_⟩⟩
        · refine ⟨x1.g.trans x2.g, fun a o k => ?_, er2.sub, fun a k n => ?_⟩
          · have ha : a ≠ LD := fun ha => by subst ha; have := x1.h a o k; rw [hD] at this; cases this
            have := x2.h a o (by rw [upd_ne ha]; exact x1.h a o k)
            rw [upd_ne ha] at this; exact this
          · by_cases ha : a = LD
            · rw [ha]; exact hg2
            · refine x2.n a (x1.n a k n) ?_
              obtain ⟨o, e, z⟩ := n.mono x1.h
              exact ⟨o, by rw [upd_ne ha]; exact e, z⟩
        · cases z : Z.H LD with
          | none => rfl
          | some o =>
            have := (er.ext x1).zh LD o z
            rw [hD] at this; cases this
        · exact s.none hD
theorem de_lc {elt tg iter : Expr} {ifs : List Expr} {scope : Scope} {own : List (Str × Nat)} {pos : Pos} {it : Env → Rz (List D)} {us vs : List Nat} {p : D → Env → Rz Env} {t : Env → Rz Bool} {e : Env → Rz EV} (hN : X.N.Nodup) (hi : DI X C W tg iter it) (ok : BlkOk X.N X.env.scope scope own) (hvs : vs = own.map (·.2))
    (hu : ∀ i ∈ us, i ∈ vs)
    (hg : ∀ (s : Shared) (H : Hp) (L : Addr) (cl : List (Str × Addr)) (fp : List Addr), DG (X.blk s H scope (compEnvC scope cl L X.env) fp) C tg us p) (ht : ∀ (s : Shared) (H : Hp) (L : Addr) (cl : List (Str × Addr)) (fp : List Addr), DTs (X.blk s H scope (compEnvC scope cl L X.env) fp) C W0 ifs t)
    (he : ∀ (s : Shared) (H : Hp) (L : Addr) (cl : List (Str × Addr)) (fp : List Addr), DE (X.blk s H scope (compEnvC scope cl L X.env) fp) C W0 elt e) (hc : X.calm = true := by rfl) (hs : ∀ x, foldedSetIterable iter X.env x = pure x := by intro _; rfl) :
    DE X C W (.ListComp elt [⟨tg, iter, ifs, 0⟩] scope pos) (mLc it p t e vs) := by
  subst hvs
  exact ⟨PE.imp (pe_lc hc hN hi.pi ok (fun s H L cl fp => (hg s H L cl fp).pg) (fun s H L cl fp => (ht s H L cl fp).pts) (fun s H L cl fp => (he s H L cl fp).pe) hs) fun σ H Q h => lc_go hu h⟩
theorem ds_setLcO {i : Nat} {y : Str} {py : Pos} {elt tg iter : Expr} {ifs : List Expr} {scope : Scope} {own : List (Str × Nat)} {pos spos : Pos} {it : Env → Rz (List D)} {us vs : List Nat} {p : D → Env → Rz Env} {t : Env → Rz Bool} {e : Env → Rz EV} (hN : X.N.Nodup)
    (hsw : swapsWith (.ListComp elt [⟨tg, iter, ifs, 0⟩] scope pos) (some (.Name y py)) spos.line X.env = pure true) (hi : DI X C W tg iter it) (ok : BlkOk X.N X.env.scope scope own) (hvs : vs = own.map (·.2))
    (hu : ∀ i ∈ us, i ∈ vs)
    (hg : ∀ (s : Shared) (H : Hp) (L : Addr) (cl : List (Str × Addr)) (fp : List Addr), DG (X.blk s H scope (compEnvC scope cl L X.env) fp) C tg us p) (ht : ∀ (s : Shared) (H : Hp) (L : Addr) (cl : List (Str × Addr)) (fp : List Addr), DTs (X.blk s H scope (compEnvC scope cl L X.env) fp) C W0 ifs t)
    (he : ∀ (s : Shared) (H : Hp) (L : Addr) (cl : List (Str × Addr)) (fp : List Addr), DE (X.blk s H scope (compEnvC scope cl L X.env) fp) C W0 elt e) (hy : X.N[i]? = some y := by rfl) (hyl : X.env.scope.names.lookup y = some .local := by rfl) (hc : X.calm = true := by rfl) (hs : ∀ x, foldedSetIterable iter X.env x = pure x := by intro _; rfl) :
    DS X C W (.Assign [.Name y py] (.ListComp elt [⟨tg, iter, ifs, 0⟩] scope pos) spos) (mSetO i (mLc it p t e vs)) := by
  subst hvs
  exact ⟨PS.imp (ps_setLc hc hN hy hyl hsw hi.pi ok (fun s H L cl fp => (hg s H L cl fp).pg) (fun s H L cl fp => (ht s H L cl fp).pts) (fun s H L cl fp => (he s H L cl fp).pe) hs) fun D σ H h => lc_go hu (onE_go h fun Z G1 H1 env v a er z s va q fr => by
    unfold stO at q
    split at q
    · rename_i w
      obtain ⟨p, rfl, h1, h2, h3, h4⟩ := va
      exact q _ H1 G1 .refl (er.setO h1 h2 h3 fun j x v _ e1 e2 => fr p (h4 rfl) j x v e1 e2)
    · exact q.elim)⟩
abbrev Fn := List D → Rz EV
def spD (K : KC) (n : Nat) (F : Fn) : Sp := fun vs H Q E => ∃ G ds, Sub G H ∧ Reps K G vs ds ∧ ds.length = n ∧ match F ds with
  | .ok ev => ∀ v G' H', Ext G H G' H' → EVok K ⟨G, H⟩ H G' H' v ev → Q v H'
  | .exc e => ∀ cls d G' H', Ext G H G' H' → ExcOk K G' H' cls d e → E cls d H'
  | .stuck => False
def runB (N : Nat) (b : Env → Out) : Fn := fun ds => match b (ds.map SL.val ++ List.replicate (N - ds.length) SL.no) with
  | .nx _ => .ok (.fz .non)
  | .ret ev => .ok ev
  | .exc e _ => .exc e
  | _ => .stuck
theorem er_start {K : KC} {G H : Hp} {vs : List V} {ds : List D} (s : Sub G H) (r : Reps K G vs ds) (N : List Str) (hN : ds.length ≤ N.length) : ER K ⟨G, H⟩ G H (start N vs) (ds.map SL.val ++ List.replicate (N.length - ds.length) SL.no) := by
  have hl := r.length
  have noown : ∀ (i : Nat) (x : SL) (v : Option V) (p : Addr), (ds.map SL.val ++ List.replicate (N.length - ds.length) SL.no)[i]? = some x → ¬ x.owns H v p := fun i x v p e o => by
    rw [List.getElem?_append] at e
    split at e
    · rw [List.getElem?_map] at e
      cases q : ds[i]? with
      | none => rw [q] at e; cases e
      | some d => rw [q] at e; cases e; exact o
    · rw [List.getElem?_replicate] at e
      split at e
      · cases e; exact o
      · cases e
  refine ⟨by simp [L2.start, hl], .refl, .refl, s, s, fun a n z => absurd z n, fun i x e => ?_, fun i x v p e _ o => absurd o (noown i x v p e), fun i j x y v u p e _ o => absurd o (noown i x v p e)⟩
  rw [List.getElem?_append] at e
  unfold L2.start
  rw [List.getElem?_append]
  simp only [List.length_map] at e ⊢
  rw [hl]
  split at e
  · rename_i hi
    rw [if_pos hi]
    rw [List.getElem?_map] at e ⊢
    cases q : ds[i]? with
    | none => rw [q] at e; cases e
    | some d =>
      rw [q] at e; cases e
      obtain ⟨v, h1, h2⟩ := r.get q
      exact ⟨some v, by rw [h1]; rfl, v, rfl, h2⟩
  · rename_i hi
    rw [if_neg hi]
    rw [List.getElem?_replicate] at e ⊢
    split at e
    · rename_i hj
      cases e
      rw [if_pos hj]
      exact ⟨none, rfl, trivial⟩
    · cases e
theorem ER.toExt {K : KC} {Z : Ent} {G H : Hp} {σ : L2.St} {env : Env} (er : ER K Z G H σ env) : Ext Z.G Z.H G H :=
  ⟨er.zg, er.zh, er.sub, fun a n k => by
    cases q : G a with
    | none => rfl
    | some o => exact absurd k (er.new a (by rw [q]; simp) n)⟩
end
end DL
namespace DL
open PySem PySem.Spec PyProof.Rows L2
def key? : D → Option Key
  | .int i => some (.inl i)
  | .str x => some (.inr x)
  | _ => none
def keys? : List D → Option (List Key)
  | [] => some []
  | d :: ds => (key? d).bind fun k => (keys? ds).map (k :: ·)
def keyT? : D → Option (List Key)
  | .tup ds => keys? ds
  | _ => none
theorem key?_ok {d : D} {k : Key} (h : key? d = some k) : d = dkV k := by
  unfold key? at h
  split at h <;> cases h <;> rfl
theorem keys?_ok : ∀ {ds : List D} {ks : List Key}, keys? ds = some ks → ds = ks.map dkV
  | [], _, h => by cases h; rfl
  | d :: ds, ks, h => by
    unfold keys? at h
    cases hk : key? d with
    | none => rw [hk] at h; cases h
    | some k =>
      rw [hk, Option.bind_some] at h
      cases hr : keys? ds with
      | none => rw [hr] at h; cases h
      | some r =>
        rw [hr] at h
        cases h
        rw [key?_ok hk, keys?_ok hr]; rfl
theorem keyT?_ok {d : D} {ks : List Key} (h : keyT? d = some ks) : d = .tup (ks.map dkV) := by
  unfold keyT? at h
  split at h
  · rw [keys?_ok h]
  · cases h
theorem key?_dk (k : Key) : key? (dkV k) = some k := by cases k <;> rfl
theorem keys?_dk : ∀ ks : List Key, keys? (ks.map dkV) = some ks
  | [] => rfl
  | k :: r => by rw [List.map_cons, keys?, key?_dk, keys?_dk r]; rfl
def keyEq (a b : D) : Bool := match key? a, key? b with
  | some j, some k => decide (j = k)
  | none, none => (match keyT? a, keyT? b with
    | some j, some k => decide (j = k)
    | _, _ => false)
  | _, _ => false
@[simp] theorem keyEq_int (i j : Int) : keyEq (.int i) (.int j) = decide (i = j) := by simp [keyEq, key?]
@[simp] theorem keyEq_str (i j : Str) : keyEq (.str i) (.str j) = decide (i = j) := by simp [keyEq, key?]
theorem keyEq_dk (j k : Key) : keyEq (dkV j) (dkV k) = decide (j = k) := by unfold keyEq; rw [key?_dk, key?_dk]
theorem keyEq_dt (j k : List Key) : keyEq (.tup (j.map dkV)) (.tup (k.map dkV)) = decide (j = k) := by
  unfold keyEq
  show (match keys? (j.map dkV), keys? (k.map dkV) with
    | some j, some k => decide (j = k)
    | _, _ => false) = _
  rw [keys?_dk, keys?_dk]
def dfind (kvs : List (D × D)) (k : D) : Option D := (kvs.find? fun kv => keyEq kv.1 k).map (·.2)
def dstore (kvs : List (D × D)) (k v : D) : List (D × D) :=
  if (kvs.any fun kv => keyEq kv.1 k) = true then kvs.map (fun kv => if keyEq kv.1 k = true then (kv.1, v) else kv) else kvs ++ [(k, v)]
def isKeyD (t : Bool) (d : D) : Bool := if t = true then (keyT? d).isSome else (key? d).isSome
@[simp] theorem isKeyD_str (x : Str) : isKeyD false (.str x) = true := rfl
@[simp] theorem isKeyD_int (x : Int) : isKeyD false (.int x) = true := rfl
theorem dfind_cons (p : D × D) (r : List (D × D)) (k : D) : dfind (p :: r) k = if keyEq p.1 k = true then some p.2 else dfind r k := by
  unfold dfind
  rw [List.find?_cons]
  cases keyEq p.1 k <;> rfl
theorem dfind_any (kvs : List (D × D)) (k : D) : (kvs.any fun kv => keyEq kv.1 k) = (dfind kvs k).isSome := by
  induction kvs with
  | nil => rfl
  | cons p r ih =>
    rw [List.any_cons, dfind_cons, ih]
    cases keyEq p.1 k <;> simp
section
variable {K : KC} {G : Hp}
def RelD (K : KC) (G : Hp) : Option V → Option D → Prop
  | some v, some d => Rep K G v d
  | none, none => True
  | _, _ => False
theorem RepK.find {k : Key} : ∀ {kvs : List (Key × V)} {ds : List (D × D)}, RepK K G kvs ds → RelD K G (valV kvs k) (dfind ds (dkV k))
  | _, _, .nil => trivial
  | _, _, .cons (k := j) (v := v) (vs := vs) (d := d) (ds := ds) a b => by
    rw [dfind_cons]
    show RelD K G _ (if keyEq (dkV j) (dkV k) = true then _ else _)
    rw [keyEq_dk]
    by_cases z : j = k
    · rw [valV_pos (p := (j, v)) z, if_pos (by simpa using z)]; exact a
    · rw [valV_neg (p := (j, v)) z, if_neg (by simpa using z)]; exact b.find
theorem RepT.find {k : List Key} : ∀ {kvs : List (List Key × V)} {ds : List (D × D)}, RepT K G kvs ds → RelD K G (valV kvs k) (dfind ds (.tup (k.map dkV)))
  | _, _, .nil => trivial
  | _, _, .cons (k := j) (v := v) (vs := vs) (d := d) (ds := ds) a b => by
    rw [dfind_cons]
    show RelD K G _ (if keyEq (.tup (j.map dkV)) (.tup (k.map dkV)) = true then _ else _)
    rw [keyEq_dt]
    by_cases z : j = k
    · rw [valV_pos (p := (j, v)) z, if_pos (by simpa using z)]; exact a
    · rw [valV_neg (p := (j, v)) z, if_neg (by simpa using z)]; exact b.find
theorem RepK.length : ∀ {kvs : List (Key × V)} {ds : List (D × D)}, RepK K G kvs ds → kvs.length = ds.length
  | _, _, .nil => rfl
  | _, _, .cons _ b => congrArg Nat.succ b.length
theorem RepT.length : ∀ {kvs : List (List Key × V)} {ds : List (D × D)}, RepT K G kvs ds → kvs.length = ds.length
  | _, _, .nil => rfl
  | _, _, .cons _ b => congrArg Nat.succ b.length
theorem RepK.repl {k : Key} {v : V} {d : D} (r : Rep K G v d) : ∀ {kvs : List (Key × V)} {ds : List (D × D)}, RepK K G kvs ds →
    RepK K G (kvs.map fun kv => if kv.1 = k then (kv.1, v) else kv) (ds.map fun kv => if keyEq kv.1 (dkV k) = true then (kv.1, d) else kv)
  | _, _, .nil => .nil
  | _, _, .cons (k := j) (v := v') (vs := vs) (d := d') (ds := ds) a b => by
    rw [List.map_cons, List.map_cons]
    by_cases z : j = k
    · rw [if_pos z, if_pos (by show keyEq (dkV j) (dkV k) = true; rw [keyEq_dk]; simpa using z)]; exact .cons r (b.repl r)
    · rw [if_neg z, if_neg (by show ¬ keyEq (dkV j) (dkV k) = true; rw [keyEq_dk]; simpa using z)]; exact .cons a (b.repl r)
theorem RepT.repl {k : List Key} {v : V} {d : D} (r : Rep K G v d) : ∀ {kvs : List (List Key × V)} {ds : List (D × D)}, RepT K G kvs ds →
    RepT K G (kvs.map fun kv => if kv.1 = k then (kv.1, v) else kv) (ds.map fun kv => if keyEq kv.1 (.tup (k.map dkV)) = true then (kv.1, d) else kv)
  | _, _, .nil => .nil
  | _, _, .cons (k := j) (v := v') (vs := vs) (d := d') (ds := ds) a b => by
    rw [List.map_cons, List.map_cons]
    by_cases z : j = k
    · rw [if_pos z, if_pos (by show keyEq (.tup (j.map dkV)) (.tup (k.map dkV)) = true; rw [keyEq_dt]; simpa using z)]; exact .cons r (b.repl r)
    · rw [if_neg z, if_neg (by show ¬ keyEq (.tup (j.map dkV)) (.tup (k.map dkV)) = true; rw [keyEq_dt]; simpa using z)]; exact .cons a (b.repl r)
theorem RepK.snoc {k : Key} {v : V} {d : D} (r : Rep K G v d) : ∀ {kvs : List (Key × V)} {ds : List (D × D)}, RepK K G kvs ds → RepK K G (kvs ++ [(k, v)]) (ds ++ [(dkV k, d)])
  | _, _, .nil => .cons r .nil
  | _, _, .cons a b => .cons a (b.snoc r)
theorem RepT.snoc {k : List Key} {v : V} {d : D} (r : Rep K G v d) : ∀ {kvs : List (List Key × V)} {ds : List (D × D)}, RepT K G kvs ds → RepT K G (kvs ++ [(k, v)]) (ds ++ [(.tup (k.map dkV), d)])
  | _, _, .nil => .cons r .nil
  | _, _, .cons a b => .cons a (b.snoc r)
theorem RelD.some_eq {o : Option V} {p : Option D} (h : RelD K G o p) : o.isSome = p.isSome := by
  cases o <;> cases p <;> first | rfl | exact h.elim
theorem RepK.put {k : Key} {v : V} {d : D} (r : Rep K G v d) {kvs : List (Key × V)} {ds : List (D × D)} (h : RepK K G kvs ds) : RepK K G (putK kvs k v) (dstore ds (dkV k) d) := by
  unfold putK dstore
  rw [valV_any, dfind_any, (h.find (k := k)).some_eq]
  split
  · exact h.repl r
  · exact h.snoc r
theorem RepT.put {k : List Key} {v : V} {d : D} (r : Rep K G v d) {kvs : List (List Key × V)} {ds : List (D × D)} (h : RepT K G kvs ds) : RepT K G (putK kvs k v) (dstore ds (.tup (k.map dkV)) d) := by
  unfold putK dstore
  rw [valV_any, dfind_any, (h.find (k := k)).some_eq]
  split
  · exact h.repl r
  · exact h.snoc r
theorem rep_key {v : V} {k : Key} (h : Rep K G v (dkV k)) : v = kV k := by
  cases k with
  | inl i => cases h; rfl
  | inr x => cases h; rfl
theorem reps_keys : ∀ {vs : List V} {ks : List Key}, Reps K G vs (ks.map dkV) → vs = ks.map kV
  | _, [], .nil => rfl
  | _, k :: r, .cons a b => by rw [rep_key a, reps_keys b]; rfl
theorem rep_keyT {v : V} {ks : List Key} (h : Rep K G v (.tup (ks.map dkV))) : ∃ b, v = .ref b ∧ G b = some (.tup (ks.map kV)) := by
  cases h with
  | tup sq r => exact ⟨_, rfl, by rw [← reps_keys r]; exact sq⟩
end
section
variable {X : Cx} {pins : List (Addr × Obj)} {σ : L2.St} {H : Hp} {s : Shared} {a : Addr} {y v : V} {u r : Value} {o : Option V} {A : Around} {E : Value → Shared → Prop}
theorem key_ofS {b : Addr} {ks : List Key} (I : Inv X pins σ H s) (e : SqT X.K H b (ks.map kV)) : (tupleKind (mixKind X.prog X.w)).is s.heap ks b := by
  obtain ⟨its, r, ⟨o, h1, h2, n, h3⟩, _⟩ := I.tuple e
  exact ⟨o, its.toArray, n, h1, h2, h3, by simpa using items_are r⟩
def DGetS (K : PySem.W.Frag) (H : Hp) (a : Addr) (y : V) (r : Option V) : Prop :=
  (∃ kvs k, Rd H a (.dK kvs) ∧ y = kV k ∧ r = valV kvs k) ∨ ∃ kvs k b, Rd H a (.dT kvs) ∧ y = .ref b ∧ SqT K H b (k.map kV) ∧ r = valV kvs k
theorem DGetS.mono {K : PySem.W.Frag} {H H' : Hp} {a : Addr} {y : V} {r : Option V} (s : Sub H H') (h : DGetS K H a y r) : DGetS K H' a y r := by
  rcases h with ⟨kvs, k, e, ey, l⟩ | ⟨kvs, k, b, e, ey, eb, l⟩
  · exact .inl ⟨kvs, k, s.rd e, ey, l⟩
  · exact .inr ⟨kvs, k, b, s.rd e, ey, s.sqT eb, l⟩
theorem dS_getItem {Q : Value → Shared → Prop} (hu : A.units + 1 < cLine) (I : Inv X pins σ H s) (g : DGetS X.K H a y (some v)) (ry : RelV y u) (h : ∀ w' s', Inv X pins σ H s' → RelV v w' → Q w' s') :
    wpAny (model X.prog X.w) A (getItem (.ref a) u) Q E s := by
  rcases g with ⟨kvs, k, e, ey, l⟩ | ⟨kvs, k, b, e, ey, eb, l⟩
  · exact d_getItem hu I (.inl ⟨kvs, k, e, ey, l⟩) ry h
  · subst ey
    cases (show u = Value.ref b from ry)
    obtain ⟨z, hd, xs, rel, dd⟩ := dt_rd I.hok e
    obtain ⟨w', hw, rw'⟩ := RelO.some_of (v := v) (o := (atKey xs k).map (·.2)) (by rw [l]; exact rel.val k)
    obtain ⟨p, hp, hp2⟩ := Option.map_eq_some_iff.mp hw
    refine wpAny_getItem_heap (tupleKind_room_in1 hu) (key_ofS I eb) dd hp ?_
    rw [hp2]
    exact h w' _ (I.tok _) rw'
theorem dS_in {Q : Value → Shared → Prop} (hu : A.units + 1 < cLine) (I : Inv X pins σ H s) (g : DGetS X.K H a y o) (ry : RelV y u) (h : ∀ s', Inv X pins σ H s' → Q (.bool o.isSome) s') :
    wpAny (model X.prog X.w) A (compareOp .In u (.ref a)) Q E s := by
  rcases g with ⟨kvs, k, e, ey, l⟩ | ⟨kvs, k, b, e, ey, eb, l⟩
  · exact d_in hu I (.inl ⟨kvs, k, e, ey, l⟩) ry h
  · subst ey
    cases (show u = Value.ref b from ry)
    obtain ⟨z, hd, xs, rel, dd⟩ := dt_rd I.hok e
    refine wpAny_in_heap (tupleKind_room_in1 hu) (key_ofS I eb) hd dd ?_
    have q := (rel.val k).isSome_eq
    rw [Option.isSome_map] at q
    rw [← q, ← l]
    exact h _ (I.tok _)
theorem dS_notIn {Q : Value → Shared → Prop} (hu : A.units + 1 < cLine) (I : Inv X pins σ H s) (g : DGetS X.K H a y o) (ry : RelV y u) (h : ∀ s', Inv X pins σ H s' → Q (.bool (!o.isSome)) s') :
    wpAny (model X.prog X.w) A (compareOp .NotIn u (.ref a)) Q E s := by
  rcases g with ⟨kvs, k, e, ey, l⟩ | ⟨kvs, k, b, e, ey, eb, l⟩
  · exact d_notIn hu I (.inl ⟨kvs, k, e, ey, l⟩) ry h
  · subst ey
    cases (show u = Value.ref b from ry)
    obtain ⟨z, hd, xs, rel, dd⟩ := dt_rd I.hok e
    refine wpAny_notIn_heap (tupleKind_room_in1 hu) (key_ofS I eb) hd dd ?_
    have q := (rel.val k).isSome_eq
    rw [Option.isSome_map] at q
    rw [← q, ← l]
    exact h _ (I.tok _)
def rInK (K : PySem.W.Frag) (neg : Bool) : R2 := fun x y H Q => ∃ a o, y = .ref a ∧ DGetS K H a x o ∧ Q (.bl (if neg then !o.isSome else o.isSome)) H
theorem op_inK (hu : X.A.units + 1 < cLine) : OpR X (compareOp .In) (rInK X.K false) := by
  intro pins s σ H x y v u Q I rx ry ⟨a, o, e, g, q⟩
  subst e
  obtain rfl : u = Value.ref a := ry
  exact dS_in hu I g rx fun s' I' => ⟨.bl o.isSome, H, I', rfl, q⟩
theorem op_niK (hu : X.A.units + 1 < cLine) : OpR X (compareOp .NotIn) (rInK X.K true) := by
  intro pins s σ H x y v u Q I rx ry ⟨a, o, e, g, q⟩
  subst e
  obtain rfl : u = Value.ref a := ry
  exact dS_notIn hu I g rx fun s' I' => ⟨.bl (!o.isSome), H, I', rfl, q⟩
def rIxK (K : PySem.W.Frag) : R2 := fun x y H Q => ∃ a v, x = .ref a ∧ DGetS K H a y (some v) ∧ Q v H
theorem dictS_typeIs (I : Inv X pins σ H s) (g : DGetS X.K H a y o) : s.TypeIs (.ref a) "dict" := by
  rcases g with ⟨kvs, k, e, _, _⟩ | ⟨kvs, k, b, e, _, _, _⟩
  · obtain ⟨z, hd, vs, rel, dd⟩ := dk_rd I.hok e
    exact dd.typeIs
  · obtain ⟨z, hd, xs, rel, dd⟩ := dt_rd I.hok e
    exact dd.typeIs
theorem ix_dK (hu : X.A.units + 1 < cLine) : IxR X (rIxK X.K) := by
  intro value slice pins s σ H x y v u Q I rx ry ⟨a, r, e, g, q⟩ hs
  subst e
  obtain rfl : v = Value.ref a := rx
  exact tail_any (dictS_typeIs I g) slot_dict_getitem.lookup (dS_getItem hu I g ry fun w' s' I' r' => ⟨r, H, I', r', q⟩) hs
end
end DL
namespace DL
open PySem PySem.Spec PyProof.Rows L2
mutual
def toPy : D → PyData
  | .non => .none
  | .bl b => .bool b
  | .int i => .int i
  | .str x => .str x
  | .tup ds => .tuple (toPys ds)
  | .lst ds => .list (toPys ds)
  | _ => .dict []
def toPys : List D → List PyData
  | [] => []
  | d :: ds => toPy d :: toPys ds
end
theorem toPys_map : ∀ ds : List D, toPys ds = ds.map toPy
  | [] => rfl
  | d :: ds => by rw [toPys, List.map_cons, toPys_map ds]
mutual
theorem dp_of {K : KC} {G : Hp} : ∀ {v : V} {d : D}, Rep K G v d → (toPy d).canLay0 = true → Dp K.K G v (toPy d)
  | _, _, .non, _ => .non
  | _, _, .bl b, _ => .bl b
  | _, _, .int i, _ => .int i
  | _, _, .str x, _ => .str x
  | _, _, .tup sq r, h => .tup (.of sq) (dps_of r (by unfold toPy at h; exact h))
  | _, _, .lst sq r, h => .lst (.of sq) (dps_of r (by unfold toPy at h; exact h))
  | _, _, .ty _, h => by unfold toPy at h; cases h
  | _, _, .cls _, h => by unfold toPy at h; cases h
  | _, _, .scr _, h => by unfold toPy at h; cases h
  | _, _, .dk _ _, h => by unfold toPy at h; cases h
  | _, _, .dt _ _, h => by unfold toPy at h; cases h
  | _, _, .ins _ _ _, h => by unfold toPy at h; cases h
theorem dps_of {K : KC} {G : Hp} : ∀ {vs : List V} {ds : List D}, Reps K G vs ds → PyData.canLayAll0 (toPys ds) = true → DpAll K.K G vs (toPys ds)
  | _, _, .nil, _ => .nil
  | _, _, .cons a b, h => by
    rw [toPys] at h ⊢
    have h' : ((toPy _).canLay0 && PyData.canLayAll0 (toPys _)) = true := h
    obtain ⟨h1, h2⟩ := Bool.and_eq_true_iff.mp h'
    exact .cons (dp_of a h1) (dps_of b h2)
end
def eqD : D → D → Option Bool
  | .int i, .int j => some (decide (i = j))
  | .str i, .str j => some (decide (i = j))
  | .bl i, .bl j => some (decide (i = j))
  | x, y => if SeqAt.shaped (toPy x) = true ∧ SeqAt.shaped (toPy y) = true then some (PyData.eqv (toPy x) (toPy y)) else none
@[simp] theorem eqD_int (i j : Int) : eqD (.int i) (.int j) = some (decide (i = j)) := rfl
@[simp] theorem eqD_str (i j : Str) : eqD (.str i) (.str j) = some (decide (i = j)) := rfl
@[simp] theorem eqD_bl (i j : Bool) : eqD (.bl i) (.bl j) = some (decide (i = j)) := rfl
def opEq (a b : EV) : Rz EV := orStuck (eqD a.d b.d) >>= fun k => .ok (.fz (.bl k))
def opNe (a b : EV) : Rz EV := orStuck (eqD a.d b.d) >>= fun k => .ok (.fz (.bl (!k)))
theorem noexc_bind {α : Type} {o : Option α} {f : α → Rz EV} (h : ∀ a e, f a ≠ .exc e) (e : Exn) : (orStuck o >>= f) ≠ .exc e := by
  cases o with
  | none => intro z; cases z
  | some a => exact h a e
theorem ne_eq : NoExc opEq := ⟨fun a b e => noexc_bind (fun _ _ z => by cases z) e⟩
theorem ne_ne : NoExc opNe := ⟨fun a b e => noexc_bind (fun _ _ z => by cases z) e⟩
section
variable {X : Cx} {C : CT} {W : WX}
theorem giveB {K : KC} {Z : Ent} {G H : Hp} {Q : VK} {k : Bool} (s : Sub G H) (q : ∀ v G' H', Ext G H G' H' → EVok K Z H G' H' v (.fz (.bl k)) → Q v H') : Q (.bl k) H := q _ G H (.refl s) (.bl k)
theorem giveI {K : KC} {Z : Ent} {G H : Hp} {Q : VK} {k : Int} (s : Sub G H) (q : ∀ v G' H', Ext G H G' H' → EVok K Z H G' H' v (.fz (.int k)) → Q v H') : Q (.int k) H := q _ G H (.refl s) (.int k)
theorem giveS {K : KC} {Z : Ent} {G H : Hp} {Q : VK} {k : Str} (s : Sub G H) (q : ∀ v G' H', Ext G H G' H' → EVok K Z H G' H' v (.fz (.str k)) → Q v H') : Q (.str k) H := q _ G H (.refl s) (.str k)
theorem giveL {K : KC} {Z : Ent} {G H : Hp} {Q : VK} {vs : List V} {ds : List D} (s : Sub G H) (zh : Sub Z.H H) (r : Reps K G vs ds) (q : ∀ v G' H', Ext G H G' H' → EVok K Z H G' H' v (.ow true (.lst ds)) → Q v H') : ∀ p, H p = none → Q (.ref p) (upd H p (.lst vs)) := fun p hp =>
  q (.ref p) G _ (.lay s hp) ⟨p, rfl, ⟨vs, upd_same, r⟩, s.none hp, zh.none hp, fun _ => hp⟩
theorem giveT {K : KC} {Z : Ent} {G H : Hp} {Q : VK} {vs : List V} {ds : List D} (s : Sub G H) (r : Reps K G vs ds) (q : ∀ v G' H', Ext G H G' H' → EVok K Z H G' H' v (.fz (.tup ds)) → Q v H') : ∀ p, H p = none → Q (.ref p) (upd H p (.tup vs)) := fun p hp =>
  q (.ref p) _ _ (.lay2 s hp) (.tup upd_same (r.mono (.upd (s.none hp))))
def rEqA (K : PySem.W.Frag) : R2 := fun x y H Q => rEq x y H Q ∨ rEqD K x y H Q
def rNeA (K : PySem.W.Frag) : R2 := fun x y H Q => rNe x y H Q ∨ rNeD K x y H Q
theorem eq_core {K : KC} {H : Hp} {x y : V} {a b : D} {k : Bool} (ra : Rep K H x a) (rb : Rep K H y b) (h : eqD a b = some k) :
    (scal x y = true ∧ k = decide (x = y)) ∨ (∃ d e, Dp K.K H x d ∧ Dp K.K H y e ∧ SeqAt.shaped d = true ∧ SeqAt.shaped e = true ∧ k = PyData.eqv d e) := by
  have deep : (if SeqAt.shaped (toPy a) = true ∧ SeqAt.shaped (toPy b) = true then some (PyData.eqv (toPy a) (toPy b)) else none) = some k → (∃ d e, Dp K.K H x d ∧ Dp K.K H y e ∧ SeqAt.shaped d = true ∧ SeqAt.shaped e = true ∧ k = PyData.eqv d e) := fun h => by
    by_cases z : SeqAt.shaped (toPy a) = true ∧ SeqAt.shaped (toPy b) = true
    · rw [if_pos z] at h
      cases h
      exact ⟨_, _, dp_of ra (SeqAt.canLay_of_shaped z.1), dp_of rb (SeqAt.canLay_of_shaped z.2), z.1, z.2, rfl⟩
    · rw [if_neg z] at h; cases h
  unfold eqD at h
  split at h
  · cases h
    cases ra; cases rb
    exact .inl ⟨rfl, by simp⟩
  · cases h
    cases ra; cases rb
    exact .inl ⟨rfl, by simp⟩
  · cases h
    cases ra; cases rb
    exact .inl ⟨rfl, by simp⟩
  · exact .inr (deep h)
theorem od_eq (hu : X.A.units + 64 < cLine) : OpD X C (compareOp .Eq) opEq := by
  refine ⟨rEqA X.K, OpR.or op_eq (op_eqD hu), fun Z G H Hs x y a b Q s zh va vb q => ?_⟩
  unfold opEq at q
  cases h : eqD a.d b.d with
  | none => rw [h] at q; exact q.elim
  | some k =>
    rw [h] at q
    have q := giveB s q
    rcases eq_core (va.rep s) (vb.rep s) h with ⟨h1, rfl⟩ | ⟨d, e, h1, h2, h3, h4, rfl⟩
    · exact .inl ⟨h1, q⟩
    · exact .inr ⟨d, e, h1, h2, h3, h4, q⟩
theorem od_ne (hu : X.A.units + 64 < cLine) : OpD X C (compareOp .NotEq) opNe := by
  refine ⟨rNeA X.K, OpR.or op_ne (op_neD hu), fun Z G H Hs x y a b Q s zh va vb q => ?_⟩
  unfold opNe at q
  cases h : eqD a.d b.d with
  | none => rw [h] at q; exact q.elim
  | some k =>
    rw [h] at q
    have q := giveB s q
    rcases eq_core (va.rep s) (vb.rep s) h with ⟨h1, rfl⟩ | ⟨d, e, h1, h2, h3, h4, rfl⟩
    · exact .inl ⟨h1, q⟩
    · exact .inr ⟨d, e, h1, h2, h3, h4, q⟩
theorem OpD.of {f : Value → Value → Sem Value} {g : EV → EV → Rz EV} {r : R2} (ho : OpR X f r)
    (h : ∀ (Z : Ent) (G H Hs : Hp) (x y : V) (a b ev : EV) (Q : VK), Sub G H → Sub Z.H H → EVok (kc X C) Z Hs G H x a → EVok (kc X C) Z Hs G H y b → g a b = .ok ev → (∀ v G' H', Ext G H G' H' → EVok (kc X C) Z H G' H' v ev → Q v H') → r x y H Q) : OpD X C f g :=
  ⟨r, ho, fun Z G H Hs x y a b Q s zh va vb q => by
    cases hg : g a b with
    | ok ev => rw [hg] at q; exact h Z G H Hs x y a b ev Q s zh va vb hg q
    | exc e => rw [hg] at q; exact q.elim
    | stuck => rw [hg] at q; exact q.elim⟩
def opI (c : Int → Int → Bool) (g : Int → Int → D) (a b : EV) : Rz EV := match a, b with
  | .fz (.int i), .fz (.int j) => if c i j = true then .ok (.fz (g i j)) else .stuck
  | _, _ => .stuck
@[simp] theorem opI_int (c : Int → Int → Bool) (g : Int → Int → D) (i j : Int) : opI c g (.fz (.int i)) (.fz (.int j)) = if c i j = true then .ok (.fz (g i j)) else .stuck := rfl
theorem opI_inv {c : Int → Int → Bool} {g : Int → Int → D} {a b : EV} {P : Rz EV → Prop} (hs : ¬ P .stuck) (h : P (opI c g a b)) : ∃ i j, a = .fz (.int i) ∧ b = .fz (.int j) ∧ c i j = true ∧ P (.ok (.fz (g i j))) := by
  unfold opI at h
  split at h
  · rename_i i j
    by_cases z : c i j = true
    · rw [if_pos z] at h; exact ⟨i, j, rfl, rfl, z, h⟩
    · rw [if_neg z] at h; exact absurd h hs
  · exact absurd h hs
theorem ne_opI {c : Int → Int → Bool} {g : Int → Int → D} : NoExc (opI c g) := ⟨fun a b e h => by
  obtain ⟨_, _, _, _, _, z⟩ := opI_inv (P := fun r => r = .exc e) (by intro z; cases z) h
  cases z⟩
theorem od_I {f : Value → Value → Sem Value} {c : Int → Int → Bool} {CC : Int → Int → Prop} {g : Int → Int → Int} (ho : OpR X f (rI CC fun i j => .int (g i j))) (hc : ∀ i j, c i j = true → CC i j) : OpD X C f (opI c fun i j => .int (g i j)) :=
  ⟨_, ho, fun Z G H Hs x y a b Q s zh va vb q => by
    obtain ⟨i, j, rfl, rfl, h, q⟩ := opI_inv (P := fun r => match r with
      | .ok ev => ∀ v G' H', Ext G H G' H' → EVok (kc X C) Z H G' H' v ev → Q v H'
      | _ => False) (fun z => z) q
    exact ⟨i, j, rep_int va, rep_int vb, hc i j h, giveI s q⟩⟩
theorem od_I0 {f : Value → Value → Sem Value} {g : Int → Int → Int} (ho : OpR X f (rI0 fun i j => .int (g i j))) : OpD X C f (opI (fun _ _ => true) fun i j => .int (g i j)) :=
  ⟨_, ho, fun Z G H Hs x y a b Q s zh va vb q => by
    obtain ⟨i, j, rfl, rfl, h, q⟩ := opI_inv (P := fun r => match r with
      | .ok ev => ∀ v G' H', Ext G H G' H' → EVok (kc X C) Z H G' H' v ev → Q v H'
      | _ => False) (fun z => z) q
    exact ⟨i, j, rep_int va, rep_int vb, giveI s q⟩⟩
abbrev opSub : EV → EV → Rz EV := opI (fun _ _ => true) fun i j => .int (i - j)
abbrev opMul : EV → EV → Rz EV := opI (fun i j => decide (i.natAbs < 18446744073709551616) || decide (j.natAbs < 18446744073709551616)) fun i j => .int (i * j)
abbrev opDiv : EV → EV → Rz EV := opI (fun _ j => decide (0 < j) && decide (j < 1073741824)) fun i j => .int (i / j)
abbrev opMod : EV → EV → Rz EV := opI (fun _ j => decide (0 < j)) fun i j => .int (i % j)
abbrev opPow : EV → EV → Rz EV := opI (fun i j => decide (0 ≤ j) && decide (j ≤ 1000000) && decide (i.natAbs < 2 ^ 64)) fun i j => .int (i ^ j.toNat)
theorem od_sub : OpD X C (binaryOp .Sub) opSub := od_I0 op_sub
theorem od_mul : OpD X C (binaryOp .Mult) opMul := od_I op_mul fun i j h => by
  simp only [Bool.or_eq_true, decide_eq_true_eq] at h
  unfold CMul
  rw [p64]
  omega
theorem od_div : OpD X C (binaryOp .FloorDiv) opDiv := od_I op_fdiv fun i j h => by
  simp only [Bool.and_eq_true, decide_eq_true_eq] at h; exact h
theorem od_mod : OpD X C (binaryOp .Mod) opMod := od_I op_mod fun i j h => by
  simp only [decide_eq_true_eq] at h; exact h
theorem od_pow : OpD X C (binaryOp .Pow) opPow := od_I op_pow fun i j h => by
  simp only [Bool.and_eq_true, decide_eq_true_eq] at h; exact ⟨h.1.1, h.1.2, h.2⟩
def strLt (a b : Str) : Bool := decide (a.cps.toList < b.cps.toList)
def isNone? : PyData → Bool
  | .none => true
  | _ => false
def ltDat (a b : D) : Option Bool := if PySem.W.alike (toPy a) (toPy b) = true ∧ isNone? (toPy a) = false ∧ (toPy a).canLay0 = true ∧ (toPy b).canLay0 = true ∧ (toPy a).depth ≤ 60 then some (PySem.W.dataLt (toPy a) (toPy b)) else none
def noDat (_ _ : D) : Option Bool := none
theorem op_ltDat (hu : X.A.units + 64 < cLine) : OpR X (compareOp .Lt) (fun x y H Q => ∃ d e, Dp X.K H x d ∧ Dp X.K H y e ∧ PySem.W.alike d e = true ∧ d ≠ .none ∧ d.depth ≤ 60 ∧ Q (.bl (PySem.W.dataLt d e)) H) := by
  intro pins s σ H x y v u Q I rx ry ⟨d, e, hd, he, al, hn, hz, q⟩
  obtain ⟨as, r1⟩ := Dp.reads I d x v hd rx
  obtain ⟨bs, r2⟩ := Dp.reads I e y u he ry
  exact PySem.W.rcLt_alike d e X.A s v u as bs r1 r2 al hn (by omega) X.prog X.w X.xe _ ⟨.bl _, H, I, rfl, q⟩
def opO (p : Int → Int → Bool) (r : Str → Str → Bool) (f : D → D → Option Bool) (a b : EV) : Rz EV := match a, b with
  | .fz (.int i), .fz (.int j) => .ok (.fz (.bl (p i j)))
  | .fz (.str i), .fz (.str j) => .ok (.fz (.bl (r i j)))
  | a, b => orStuck (f a.d b.d) >>= fun k => .ok (.fz (.bl k))
@[simp] theorem opO_int (p : Int → Int → Bool) (r : Str → Str → Bool) (f : D → D → Option Bool) (i j : Int) : opO p r f (.fz (.int i)) (.fz (.int j)) = .ok (.fz (.bl (p i j))) := rfl
@[simp] theorem opO_str (p : Int → Int → Bool) (r : Str → Str → Bool) (f : D → D → Option Bool) (i j : Str) : opO p r f (.fz (.str i)) (.fz (.str j)) = .ok (.fz (.bl (r i j))) := rfl
theorem ne_opO {p : Int → Int → Bool} {r : Str → Str → Bool} {f : D → D → Option Bool} : NoExc (opO p r f) := ⟨fun a b e h => by
  unfold opO at h
  split at h
  · cases h
  · cases h
  · exact noexc_bind (fun _ _ z => by cases z) e h⟩
theorem od_O {f : Value → Value → Sem Value} {p : Int → Int → Bool} {r : Str → Str → Bool} {g : D → D → Option Bool} {r2 : R2} (h1 : OpR X f (rI0 fun i j => .bl (p i j))) (h2 : OpR X f (fun x y H Q => ∃ i j, x = .str i ∧ y = .str j ∧ Q (.bl (r i j)) H)) (h3 : OpR X f r2)
    (h4 : ∀ (H : Hp) (x y : V) (a b : D) (k : Bool) (Q : VK), Rep (kc X C) H x a → Rep (kc X C) H y b → g a b = some k → Q (.bl k) H → r2 x y H Q) : OpD X C f (opO p r g) :=
  .of (OpR.or h1 (OpR.or h2 h3)) fun Z G H Hs x y a b ev Q s zh va vb hg q => by
    unfold opO at hg
    split at hg
    · cases hg; exact .inl ⟨_, _, rep_int va, rep_int vb, giveB s q⟩
    · cases hg; exact .inr (.inl ⟨_, _, rep_str va, rep_str vb, giveB s q⟩)
    · cases hk : g a.d b.d with
      | none => rw [hk] at hg; cases hg
      | some k =>
        rw [hk] at hg
        cases hg
        exact .inr (.inr (h4 H x y _ _ k Q (va.rep s) (vb.rep s) hk (giveB s q)))
theorem od_O2 {f : Value → Value → Sem Value} {p : Int → Int → Bool} {r : Str → Str → Bool} (h1 : OpR X f (rI0 fun i j => .bl (p i j))) (h2 : OpR X f (fun x y H Q => ∃ i j, x = .str i ∧ y = .str j ∧ Q (.bl (r i j)) H)) : OpD X C f (opO p r noDat) :=
  od_O h1 h2 h1 fun H x y a b k Q ra rb h q => by cases h
abbrev opLt : EV → EV → Rz EV := opO (fun i j => decide (i < j)) strLt ltDat
abbrev opLe : EV → EV → Rz EV := opO (fun i j => decide (i ≤ j)) (fun i j => !strLt j i) noDat
abbrev opGt : EV → EV → Rz EV := opO (fun i j => decide (j < i)) (fun i j => strLt j i) noDat
abbrev opGe : EV → EV → Rz EV := opO (fun i j => decide (j ≤ i)) (fun i j => !strLt i j) noDat
theorem od_lt (hu : X.A.units + 64 < cLine) : OpD X C (compareOp .Lt) opLt := od_O op_lt op_lt_str (op_ltDat hu) fun H x y a b k Q ra rb h q => by
  unfold ltDat at h
  split at h
  · rename_i z
    cases h
    exact ⟨_, _, dp_of ra z.2.2.1, dp_of rb z.2.2.2.1, z.1, (fun e => by rw [e] at z; exact absurd z.2.1 (by decide)), z.2.2.2.2, q⟩
  · cases h
theorem od_le : OpD X C (compareOp .LtE) opLe := od_O2 op_le op_le_str
theorem od_gt : OpD X C (compareOp .Gt) opGt := od_O2 op_gt op_gt_str
theorem od_ge : OpD X C (compareOp .GtE) opGe := od_O2 op_ge op_ge_str
def lstOf : EV → Option (List D)
  | .fz (.lst ds) => some ds
  | .ow _ (.lst ds) => some ds
  | _ => none
@[simp] theorem lstOf_fz (ds : List D) : lstOf (.fz (.lst ds)) = some ds := rfl
@[simp] theorem lstOf_ow (n : Bool) (ds : List D) : lstOf (.ow n (.lst ds)) = some ds := rfl
theorem lstOf_ok {K : KC} {Z : Ent} {Hs G H : Hp} {v : V} {ev : EV} {ds : List D} (s : Sub G H) (h : lstOf ev = some ds) (k : EVok K Z Hs G H v ev) : ∃ p vs, v = .ref p ∧ H p = some (.lst vs) ∧ Reps K G vs ds := by
  unfold lstOf at h
  split at h
  · cases h
    cases k with
    | lst e r => exact ⟨_, _, rfl, s _ _ e, r⟩
  · cases h
    obtain ⟨p, rfl, ⟨vs, e, r⟩, _⟩ := k
    exact ⟨p, vs, rfl, e, r⟩
  · cases h
def opAdd (a b : EV) : Rz EV := match a, b with
  | .fz (.int i), .fz (.int j) => .ok (.fz (.int (i + j)))
  | .fz (.str i), .fz (.str j) => if i.length + j.length ≤ sizeLine then .ok (.fz (.str (i ++ j))) else .stuck
  | .fz (.tup i), .fz (.tup j) => if i.length + j.length ≤ sizeLine then .ok (.fz (.tup (i ++ j))) else .stuck
  | a, b => match lstOf a, lstOf b with
    | some i, some j => if i.length + j.length ≤ sizeLine then .ok (.ow true (.lst (i ++ j))) else .stuck
    | _, _ => .stuck
@[simp] theorem opAdd_int (i j : Int) : opAdd (.fz (.int i)) (.fz (.int j)) = .ok (.fz (.int (i + j))) := rfl
@[simp] theorem opAdd_str (i j : Str) : opAdd (.fz (.str i)) (.fz (.str j)) = if i.length + j.length ≤ sizeLine then .ok (.fz (.str (i ++ j))) else .stuck := rfl
@[simp] theorem opAdd_tup (i j : List D) : opAdd (.fz (.tup i)) (.fz (.tup j)) = if i.length + j.length ≤ sizeLine then .ok (.fz (.tup (i ++ j))) else .stuck := rfl
@[simp] theorem opAdd_ff (i j : List D) : opAdd (.fz (.lst i)) (.fz (.lst j)) = if i.length + j.length ≤ sizeLine then .ok (.ow true (.lst (i ++ j))) else .stuck := rfl
@[simp] theorem opAdd_fo (n : Bool) (i j : List D) : opAdd (.fz (.lst i)) (.ow n (.lst j)) = if i.length + j.length ≤ sizeLine then .ok (.ow true (.lst (i ++ j))) else .stuck := rfl
@[simp] theorem opAdd_of (n : Bool) (i j : List D) : opAdd (.ow n (.lst i)) (.fz (.lst j)) = if i.length + j.length ≤ sizeLine then .ok (.ow true (.lst (i ++ j))) else .stuck := rfl
@[simp] theorem opAdd_oo (n m : Bool) (i j : List D) : opAdd (.ow n (.lst i)) (.ow m (.lst j)) = if i.length + j.length ≤ sizeLine then .ok (.ow true (.lst (i ++ j))) else .stuck := rfl
theorem ne_add : NoExc opAdd := ⟨fun a b e h => by
  unfold opAdd at h
  split at h
  · cases h
  · split at h <;> cases h
  · split at h <;> cases h
  · split at h
    · split at h <;> cases h
    · cases h⟩
theorem od_add : OpD X C (binaryOp .Add) opAdd :=
  .of (OpR.or op_add (OpR.or op_add_str (OpR.or op_catA op_cat))) fun Z G H Hs x y a b ev Q s zh va vb hg q => by
    unfold opAdd at hg
    split at hg
    · cases hg; exact .inl ⟨_, _, rep_int va, rep_int vb, giveI s q⟩
    · split at hg
      · rename_i hz
        cases hg
        exact .inr (.inl ⟨_, _, rep_str va, rep_str vb, hz, giveS s q⟩)
      · cases hg
    · rename_i i j
      split at hg
      · rename_i hz
        cases hg
        refine .inr (.inr (.inl ?_))
        have va' : Rep (kc X C) G x (.tup i) := va
        have vb' : Rep (kc X C) G y (.tup j) := vb
        cases va' with
        | @tup p us _ sq r =>
          cases vb' with
          | @tup p' us' _ sq' r' =>
            refine ⟨p, p', us, us', rfl, rfl, .of (s _ _ sq), .of (s _ _ sq'), by rw [r.length, r'.length]; exact hz, fun e => ?_, fun _ e => ?_, fun _ _ => giveT s (r.append r') q⟩
            · subst e
              cases r
              exact q _ G H (.refl s) (.tup sq' r')
            · subst e
              cases r'
              rw [List.append_nil] at q
              exact q _ G H (.refl s) (.tup sq r)
      · cases hg
    · split at hg
      · rename_i i j hi hj
        split at hg
        · rename_i hz
          cases hg
          obtain ⟨p, us, rfl, e, r⟩ := lstOf_ok s hi va
          obtain ⟨p', us', rfl, e', r'⟩ := lstOf_ok s hj vb
          exact .inr (.inr (.inr ⟨p, p', us, us', rfl, rfl, e, e', by rw [r.length, r'.length]; exact hz, giveL s zh (r.append r') q⟩))
        · cases hg
      · cases hg
def flatD : D → Bool
  | .int _ | .str _ | .non => true
  | _ => false
def eqF : D → D → Bool
  | .int i, .int j => decide (i = j)
  | .str i, .str j => decide (i = j)
  | .non, .non => true
  | _, _ => false
theorem flat_of {K : KC} {G : Hp} {v : V} {d : D} (r : Rep K G v d) (h : flatD d = true) : flatV v = true := by
  cases r <;> first | rfl | (cases h)
theorem flats_of {K : KC} {G : Hp} : ∀ {vs : List V} {ds : List D}, Reps K G vs ds → ds.all flatD = true → vs.all flatV = true
  | _, _, .nil, _ => rfl
  | _, _, .cons a b, h => by
    rw [List.all_cons, Bool.and_eq_true] at h ⊢
    exact ⟨flat_of a h.1, flats_of b h.2⟩
theorem eqF_of {K : KC} {G : Hp} {v u : V} {d e : D} (r : Rep K G v d) (r' : Rep K G u e) (h : flatD d = true) (h' : flatD e = true) : eqV v u = eqF d e := by
  cases r <;> first | (cases h; done) | skip
  all_goals (cases r' <;> first | (cases h'; done) | rfl | simp [eqV, eqF])
theorem inF_of {K : KC} {G : Hp} {v : V} {d : D} (r : Rep K G v d) (h : flatD d = true) : ∀ {vs : List V} {ds : List D}, Reps K G vs ds → ds.all flatD = true → inV v vs = ds.any fun e => eqF e d
  | _, _, .nil, _ => rfl
  | _, _, .cons a b, k => by
    rw [List.all_cons, Bool.and_eq_true] at k
    show (eqV _ v || inV v _) = _
    rw [List.any_cons, eqF_of a r k.1 h, inF_of r h b k.2]
def inDs (x : D) (ds : List D) (isList : Bool) : Option Bool :=
  if flatD x = true ∧ ds.all flatD = true then some (ds.any fun e => eqF e x)
  else if isList = true ∧ SeqAt.shaped (toPy x) = true ∧ SeqAt.shaped (.list (toPys ds)) = true then some ((toPys ds).any fun e => PyData.eqv e (toPy x)) else none
def sign? (y : Str) : Option Nat := match y.cps.toList with
  | [c] => some c
  | _ => none
theorem sign_of {y : Str} {c : Nat} (h : sign? y = some c) : y = ⟨#[c]⟩ := by
  unfold sign? at h
  split at h
  · rename_i c2 e
    injection h with h
    subst h
    cases y with
    | mk a =>
      have : a = #[c2] := by
        apply Array.toList_inj.mp
        exact e
      rw [this]
  · cases h
@[simp] theorem sign?_one (c : Nat) : sign? ⟨#[c]⟩ = some c := rfl
def inD (a b : EV) : Option Bool := match b.d with
  | .lst ds => inDs a.d ds true
  | .tup ds => inDs a.d ds false
  | .str z => match a.d with
    | .str y => (sign? y).map fun c => decide (c ∈ z.cps.toList)
    | _ => none
  | .dct t _ kvs => if isKeyD t a.d = true then some (dfind kvs a.d).isSome else none
  | _ => none
def opIn (a b : EV) : Rz EV := orStuck (inD a b) >>= fun k => .ok (.fz (.bl k))
def opNi (a b : EV) : Rz EV := orStuck (inD a b) >>= fun k => .ok (.fz (.bl (!k)))
theorem ne_in : NoExc opIn := ⟨fun a b e => noexc_bind (fun _ _ z => by cases z) e⟩
theorem ne_ni : NoExc opNi := ⟨fun a b e => noexc_bind (fun _ _ z => by cases z) e⟩
end
end DL
namespace DL
open PySem PySem.Spec PyProof.Rows L2
section
variable {X : Cx} {C : CT} {W : WX}
theorem canLayAll_map {ds : List D} (h : SeqAt.shaped (.list (toPys ds)) = true) : PyData.canLayAll0 (toPys ds) = true := SeqAt.canLay_of_shaped h
def rInA (K : PySem.W.Frag) (neg : Bool) : R2 := fun x y H Q => ∃ k, Q (.bl (if neg then !k else k)) H ∧
  ((∃ p xs, y = .ref p ∧ (SqL K H p xs ∨ SqT K H p xs) ∧ flatV x = true ∧ xs.all flatV = true ∧ k = inV x xs) ∨
   (∃ d ds, Dp K H x d ∧ Dp K H y (.list ds) ∧ SeqAt.shaped d = true ∧ SeqAt.shaped (.list ds) = true ∧ k = ds.any fun z => PyData.eqv z d) ∨
   (∃ (c : Nat) (z : Str), x = .str ⟨#[c]⟩ ∧ y = .str z ∧ k = decide (c ∈ z.cps.toList)) ∨
   ∃ p o, y = .ref p ∧ DGetS K H p x o ∧ k = o.isSome)
theorem op_inA (hu : X.A.units + 65 < cLine) : OpR X (compareOp .In) (rInA X.K false) := by
  intro pins s σ H x y v u Q I rx ry ⟨k, q, h⟩
  rcases h with ⟨p, xs, h1, h2, h3, h4, rfl⟩ | ⟨d, ds, h1, h2, h3, h4, rfl⟩ | ⟨c, z, h1, h2, rfl⟩ | ⟨p, o, h1, h2, rfl⟩
  · exact op_in_seq pins s σ H x y v u Q I rx ry ⟨p, xs, h1, h2, h3, h4, q⟩
  · exact op_inD hu pins s σ H x y v u Q I rx ry ⟨d, ds, h1, h2, h3, h4, q⟩
  · exact op_in_sign pins s σ H x y v u Q I rx ry ⟨c, z, h1, h2, q⟩
  · exact op_inK (by omega) pins s σ H x y v u Q I rx ry ⟨p, o, h1, h2, q⟩
theorem op_niA (hu : X.A.units + 65 < cLine) : OpR X (compareOp .NotIn) (rInA X.K true) := by
  intro pins s σ H x y v u Q I rx ry ⟨k, q, h⟩
  rcases h with ⟨p, xs, h1, h2, h3, h4, rfl⟩ | ⟨d, ds, h1, h2, h3, h4, rfl⟩ | ⟨c, z, h1, h2, rfl⟩ | ⟨p, o, h1, h2, rfl⟩
  · exact op_notIn_seq pins s σ H x y v u Q I rx ry ⟨p, xs, h1, h2, h3, h4, q⟩
  · exact op_notInD hu pins s σ H x y v u Q I rx ry ⟨d, ds, h1, h2, h3, h4, q⟩
  · exact op_notIn_sign pins s σ H x y v u Q I rx ry ⟨c, z, h1, h2, q⟩
  · exact op_niK (by omega) pins s σ H x y v u Q I rx ry ⟨p, o, h1, h2, q⟩
theorem dget_of {K : KC} {H : Hp} {y x : V} {t l : Bool} {kvs : List (D × D)} {a : D} (rb : Rep K H y (.dct t l kvs)) (ra : Rep K H x a) (h : isKeyD t a = true) : ∃ p o, y = .ref p ∧ DGetS K.K H p x o ∧ RelD K H o (dfind kvs a) := by
  cases rb with
  | dk rd r =>
    obtain ⟨k, hk⟩ := Option.isSome_iff_exists.mp (show (key? a).isSome = true from h)
    have e := key?_ok hk
    subst e
    exact ⟨_, _, rfl, .inl ⟨_, k, rd.rd, rep_key ra, rfl⟩, r.find⟩
  | dt rd r =>
    obtain ⟨k, hk⟩ := Option.isSome_iff_exists.mp (show (keyT? a).isSome = true from h)
    have e := keyT?_ok hk
    subst e
    obtain ⟨b, e, sq⟩ := rep_keyT ra
    exact ⟨_, _, rfl, .inr ⟨_, k, b, rd.rd, e, .of sq, rfl⟩, r.find⟩
theorem in_core {K : KC} {H : Hp} {x y : V} {a b : EV} {k : Bool} (ra : Rep K H x a.d) (rb : Rep K H y b.d) (h : inD a b = some k) :
    (∃ p xs, y = .ref p ∧ (SqL K.K H p xs ∨ SqT K.K H p xs) ∧ flatV x = true ∧ xs.all flatV = true ∧ k = inV x xs) ∨
    (∃ d ds, Dp K.K H x d ∧ Dp K.K H y (.list ds) ∧ SeqAt.shaped d = true ∧ SeqAt.shaped (.list ds) = true ∧ k = ds.any fun z => PyData.eqv z d) ∨
    (∃ (c : Nat) (z : Str), x = .str ⟨#[c]⟩ ∧ y = .str z ∧ k = decide (c ∈ z.cps.toList)) ∨
    ∃ p o, y = .ref p ∧ DGetS K.K H p x o ∧ k = o.isSome := by
  unfold inD at h
  cases hb : b.d with
  | lst ds =>
    rw [hb] at h rb
    cases rb with
    | @lst p us _ e r =>
      dsimp only at h
      unfold inDs at h
      split at h
      · rename_i z
        cases h
        exact .inl ⟨p, us, rfl, .inl (.of e), flat_of ra z.1, flats_of r z.2, (inF_of ra z.1 r z.2).symm⟩
      · split at h
        · rename_i z
          cases h
          exact .inr (.inl ⟨_, _, dp_of ra (SeqAt.canLay_of_shaped z.2.1), .lst (.of e) (dps_of r (canLayAll_map z.2.2)), z.2.1, z.2.2, rfl⟩)
        · cases h
  | tup ds =>
    rw [hb] at h rb
    cases rb with
    | @tup p us _ e r =>
      dsimp only at h
      unfold inDs at h
      split at h
      · rename_i z
        cases h
        exact .inl ⟨p, us, rfl, .inr (.of e), flat_of ra z.1, flats_of r z.2, (inF_of ra z.1 r z.2).symm⟩
      · split at h
        · rename_i z
          exact absurd z.1 (by simp)
        · cases h
  | str z =>
    rw [hb] at h rb
    dsimp only at h
    split at h
    · rename_i y hc
      cases hy : sign? y with
      | none => rw [hy] at h; cases h
      | some c =>
        rw [hy] at h
        cases h
        rw [hc, sign_of hy] at ra
        exact .inr (.inr (.inl ⟨c, z, rep_str ra, rep_str rb, rfl⟩))
    · cases h
  | non => rw [hb] at h; cases h
  | bl _ => rw [hb] at h; cases h
  | int _ => rw [hb] at h; cases h
  | scr _ => rw [hb] at h; cases h
  | dct t l kvs =>
    rw [hb] at h rb
    dsimp only at h
    split at h
    · rename_i z
      cases h
      obtain ⟨p, o, e, g, r⟩ := dget_of rb ra z
      exact .inr (.inr (.inr ⟨p, o, e, g, r.some_eq.symm⟩))
    · cases h
  | ins _ _ => rw [hb] at h; cases h
  | cls _ => rw [hb] at h; cases h
  | ty _ => rw [hb] at h; cases h
theorem od_in (hu : X.A.units + 65 < cLine) : OpD X C (compareOp .In) opIn :=
  .of (op_inA hu) fun Z G H Hs x y a b ev Q s zh va vb hg q => by
    unfold opIn at hg
    cases h : inD a b with
    | none => rw [h] at hg; cases hg
    | some k =>
      rw [h] at hg
      cases hg
      exact ⟨k, giveB s q, in_core (va.rep s) (vb.rep s) h⟩
theorem od_ni (hu : X.A.units + 65 < cLine) : OpD X C (compareOp .NotIn) opNi :=
  .of (op_niA hu) fun Z G H Hs x y a b ev Q s zh va vb hg q => by
    unfold opNi at hg
    cases h : inD a b with
    | none => rw [h] at hg; cases hg
    | some k =>
      rw [h] at hg
      cases hg
      exact ⟨k, giveB s q, in_core (va.rep s) (vb.rep s) h⟩
def isNon : D → Bool
  | .non => true
  | _ => false
def opIs (a b : EV) : Rz EV := match b with
  | .fz .non => .ok (.fz (.bl (isNon a.d)))
  | _ => .stuck
def opIsn (a b : EV) : Rz EV := match b with
  | .fz .non => .ok (.fz (.bl (!isNon a.d)))
  | _ => .stuck
theorem ne_is : NoExc opIs := ⟨fun a b e h => by unfold opIs at h; split at h <;> cases h⟩
theorem ne_isn : NoExc opIsn := ⟨fun a b e h => by unfold opIsn at h; split at h <;> cases h⟩
theorem non_core {K : KC} {H : Hp} {x : V} {d : D} (r : Rep K H x d) : decide (x = .non) = isNon d := by cases r <;> first | rfl | simp
theorem od_is : OpD X C (compareOp .Is) opIs :=
  .of op_isN fun Z G H Hs x y a b ev Q s zh va vb hg q => by
    unfold opIs at hg
    split at hg
    · cases hg
      refine ⟨rep_non vb, ?_⟩
      rw [non_core (va.rep s)]
      exact giveB s q
    · cases hg
theorem od_isn : OpD X C (compareOp .IsNot) opIsn :=
  .of op_notN fun Z G H Hs x y a b ev Q s zh va vb hg q => by
    unfold opIsn at hg
    split at hg
    · cases hg
      refine ⟨rep_non vb, ?_⟩
      rw [non_core (va.rep s)]
      exact giveB s q
    · cases hg
def ixD (a b : EV) : Option D := match b with
  | .fz (.int i) => (match a with
    | .fz (.lst ds) => atI ds i
    | .ow _ (.lst ds) => atI ds i
    | .fz (.tup ds) => atI ds i
    | .fz (.scr ns) => (atI ns i).map .int
    | .fz (.str z) => if z.length ≤ sizeLine then (atI z.cps.toList i).map fun c => .str ⟨#[c]⟩ else none
    | _ => none)
  | _ => none
def opIxK (a b : EV) : Rz EV := match a.d with
  | .dct t _ kvs => if isKeyD t b.d = true then orStuck (dfind kvs b.d) >>= fun d => .ok (.fz d) else .stuck
  | _ => .stuck
def opIx (a b : EV) : Rz EV := orStuck (ixD a b) >>= fun d => .ok (.fz d)
theorem ne_ix : NoExc opIx := ⟨fun a b e => noexc_bind (fun _ _ z => by cases z) e⟩
theorem atI_reps {K : KC} {G : Hp} {vs : List V} {ds : List D} {i : Int} {d : D} (r : Reps K G vs ds) (h : atI ds i = some d) : ∃ v, atI vs i = some v ∧ Rep K G v d := by
  unfold atI at h ⊢
  rw [r.length]
  cases q : ixN ds.length i with
  | none => rw [q] at h; cases h
  | some j =>
    rw [q] at h
    obtain ⟨v, h1, h2⟩ := r.get (i := j) h
    exact ⟨v, h1, h2⟩
theorem atI_map {α β : Type} (f : α → β) (xs : List α) (i : Int) : atI (xs.map f) i = (atI xs i).map f := by
  unfold atI
  rw [List.length_map]
  cases ixN xs.length i with
  | none => rfl
  | some j => simp
theorem de_ix {a b : Expr} {ma mb : Env → Rz EV} {pos : Pos} (ha : DE X C W a ma) (hb : DE X C W b mb) (hs : PlainIx b := by exact fun _ _ => rfl) : DE X C W (.Subscript a b pos) (m2 ma mb opIx) :=
  ⟨PE.imp (pe_ix ix_seq ha.pe hb.pe hs) fun σ H Q h => two_go (r := rIx X.K) (fun Z G H Hs x y a b Q s zh va vb q => by
    unfold opIx at q
    cases hg : ixD a b with
    | none => rw [hg] at q; exact q.elim
    | some d =>
      rw [hg] at q
      replace q : ∀ v G' H', Ext G H G' H' → Rep (kc X C) G' v d → Q v H' := fun v G' H' x r => q v G' H' x r
      unfold ixD at hg
      split at hg
      · rename_i i
        have hy : y = .int i := rep_int vb
        split at hg
        · rename_i ds
          have va' : Rep (kc X C) G x (.lst ds) := va
          cases va' with
          | @lst p us _ e r =>
            obtain ⟨v, h1, h2⟩ := atI_reps r hg
            exact .inl ⟨p, us, i, v, rfl, hy, .of (s _ _ e), h1, q v G H (.refl s) h2⟩
        · obtain ⟨p, e, ⟨us, e', r⟩, _⟩ := va
          obtain ⟨v, h1, h2⟩ := atI_reps r hg
          exact .inl ⟨p, us, i, v, e, hy, .of e', h1, q v G H (.refl s) h2⟩
        · rename_i ds
          have va' : Rep (kc X C) G x (.tup ds) := va
          cases va' with
          | @tup p us _ e r =>
            obtain ⟨v, h1, h2⟩ := atI_reps r hg
            exact .inr (.inl ⟨p, us, i, v, rfl, hy, .of (s _ _ e), h1, q v G H (.refl s) h2⟩)
        · rename_i ns
          have va' : Rep (kc X C) G x (.scr ns) := va
          cases va' with
          | @scr p _ e =>
            cases hn : atI ns i with
            | none => rw [hn] at hg; cases hg
            | some n =>
              rw [hn] at hg
              cases hg
              exact .inl ⟨p, _, i, .int n, rfl, hy, s.sqL e, by rw [atI_map, hn]; rfl, q _ G H (.refl s) (.int n)⟩
        · rename_i z
          split at hg
          · rename_i hz
            cases hn : atI z.cps.toList i with
            | none => rw [hn] at hg; cases hg
            | some n =>
              rw [hn] at hg
              cases hg
              exact .inr (.inr ⟨z, i, n, rep_str va, hy, hz, hn, q _ G H (.refl s) (.str _)⟩)
          · cases hg
        · cases hg
      · cases hg) ne_ix.no h⟩
theorem opIxK_inv {a b : EV} {P : Rz EV → Prop} (hs : ¬ P .stuck) (h : P (opIxK a b)) : ∃ t l kvs d, a.d = .dct t l kvs ∧ isKeyD t b.d = true ∧ dfind kvs b.d = some d ∧ P (.ok (.fz d)) := by
  unfold opIxK at h
  split at h
  · rename_i t l kvs ha
    split at h
    · rename_i hk
      cases hd : dfind kvs b.d with
      | none => rw [hd] at h; exact absurd h hs
      | some d => rw [hd] at h; exact ⟨t, l, kvs, d, ha, hk, hd, h⟩
    · exact absurd h hs
  · exact absurd h hs
theorem ne_ixK : NoExc opIxK := ⟨fun a b e h => by
  obtain ⟨_, _, _, _, _, _, _, z⟩ := opIxK_inv (P := fun r => r = .exc e) (by intro z; cases z) h
  cases z⟩
theorem de_ixK {a b : Expr} {ma mb : Env → Rz EV} {pos : Pos} (hu : X.A.units + 1 < cLine) (ha : DE X C W a ma) (hb : DE X C W b mb) (hs : PlainIx b := by exact fun _ _ => rfl) : DE X C W (.Subscript a b pos) (m2 ma mb opIxK) :=
  ⟨PE.imp (pe_ix (ix_dK hu) ha.pe hb.pe hs) fun σ H Q h => two_go (r := rIxK X.K) (fun Z G H Hs x y a b Q s zh va vb q => by
    obtain ⟨t, l, kvs, d, ha, hk, hd, q⟩ := opIxK_inv (P := fun r => match r with
        | .ok ev => ∀ v G' H', Ext G H G' H' → EVok (kc X C) Z H G' H' v ev → Q v H'
        | _ => False) (fun z => z) q
    have qq : ∀ v G' H', Ext G H G' H' → Rep (kc X C) G' v d → Q v H' := fun v G' H' x r => q v G' H' x r
    -- read in the whole heap only the address; the value by what the frozen part says
    cases a with
    | fz da =>
      have hda : da = .dct t l kvs := ha
      subst hda
      cases b with
      | fz db =>
        obtain ⟨p, o, e, g, r⟩ := dget_of (K := kc X C) va vb hk
        rw [show dfind kvs db = some d from hd] at r
        cases o with
        | none => exact r.elim
        | some v => exact ⟨p, v, e, g.mono s, qq v G H (.refl s) r⟩
      | ow n w => cases w <;> cases t <;> cases hk
    | ow n w =>
      cases w with
      | dct t' kvs' =>
        have hda : D.dct t' false kvs' = .dct t l kvs := ha
        cases hda
        obtain ⟨p, e, wo, _⟩ := va
        cases b with
        | fz db =>
          cases t with
          | false =>
            obtain ⟨k, hkk⟩ := Option.isSome_iff_exists.mp (show (key? db).isSome = true from hk)
            have ek := key?_ok hkk
            subst ek
            obtain ⟨us, e', r⟩ := wo
            have f := r.find (k := k)
            rw [show dfind kvs (dkV k) = some d from hd] at f
            cases hv : valV us k with
            | none => rw [hv] at f; exact f.elim
            | some v => rw [hv] at f; exact ⟨p, v, e, .inl ⟨us, k, .of e', rep_key vb, hv.symm⟩, qq v G H (.refl s) f⟩
          | true =>
            obtain ⟨k, hkk⟩ := Option.isSome_iff_exists.mp (show (keyT? db).isSome = true from hk)
            have ek := keyT?_ok hkk
            subst ek
            obtain ⟨us, e', r⟩ := wo
            have f := r.find (k := k)
            rw [show dfind kvs (.tup (k.map dkV)) = some d from hd] at f
            obtain ⟨b', eb, sq⟩ := rep_keyT (K := kc X C) vb
            cases hv : valV us k with
            | none => rw [hv] at f; exact f.elim
            | some v => rw [hv] at f; exact ⟨p, v, e, .inr ⟨us, k, b', .of e', eb, .of (s _ _ sq), hv.symm⟩, qq v G H (.refl s) f⟩
        | ow n w => cases w <;> cases t <;> cases hk
      | lst _ => cases ha
      | ins _ _ => cases ha
      | self _ _ => cases ha
      | wlk _ => cases ha
    ) (fun a b e => ne_ixK.no a b e) h⟩
def CallD (X : Cx) (C : CT) (f : Value) (g : List EV → Rz EV) : Prop :=
  ∃ r : List V → Hp → VK → Prop, CallR X f r ∧ ∀ (Z : Ent) (G H Hs : Hp) (vs : List V) (evs : List EV) (ev : EV) (Q : VK), Sub G H → Sub Z.H H → EVs (kc X C) Z Hs G H vs evs → g evs = .ok ev →
    (∀ v G' H', Ext G H G' H' → EVok (kc X C) Z H G' H' v ev → Q v H') → r vs H Q
def mCall (a : Env → Rz (List EV)) (g : List EV → Rz EV) : Env → Rz EV := fun env => a env >>= fun xs => g xs
structure NoExcL (g : List EV → Rz EV) : Prop where
  no : ∀ a e, g a ≠ .exc e
theorem callD_go {r : List V → Hp → VK → Prop} {m : Env → Rz (List EV)} {g : List EV → Rz EV} {σ : L2.St} {H : Hp} {Q : VK} (ng : NoExcL g) (hr : ∀ (Z : Ent) (G H Hs : Hp) (vs : List V) (evs : List EV) (ev : EV) (Q : VK), Sub G H → Sub Z.H H → EVs (kc X C) Z Hs G H vs evs → g evs = .ok ev →
    (∀ v G' H', Ext G H G' H' → EVok (kc X C) Z H G' H' v ev → Q v H') → r vs H Q) (h : tE (kc X C) W (mCall m g) σ H Q) : tCB r (tA (kc X C) W m) σ H Q :=
  tA_seq (f := fun xs _ => g xs) h fun Z G1 H1 env vs a er va hs q => by
    cases hg : g a with
    | ok ev => rw [hg] at q; exact hr Z G1 H1 H vs a ev Q er.sub er.zh va hg q
    | exc e => exact absurd hg (ng.no a e)
    | stuck => rw [hg] at q; exact q.elim
theorem de_callB {x : Str} {id : String} {p pos : Pos} {e : Expr} {es : List Expr} {m : Env → Rz (List EV)} {g : List EV → Rz EV} (hc : CallD X C (.builtin id) g) (ng : NoExcL g) (hm : X.mg x = none) (hv : bootBuiltins x = some (.builtin id)) (ha : DA X C W (e :: es) m) (hg : Gl X x := by rfl) (hn : x ≠ "__name__" := by decide) (hdb : (x == ("__debug__" : Str)) = false := by decide)
    (he : starEach (e :: es) X.env = (false, eval e X.env) :: starEach es X.env := by rfl) (hpl : (backTo pos (starEach es X.env)).any (·.1) = false := by rfl) : DE X C W (.Call (.Name x p) (e :: es) [] pos) (mCall m g) := by
  obtain ⟨r, h1, h2⟩ := hc
  exact ⟨PE.imp (pe_callB h1 hg hm hv ha.pa hn hdb he hpl) fun σ H Q h => callD_go ng h2 h⟩
theorem de_callTy {x : Str} {T : String} {p pos : Pos} {e : Expr} {es : List Expr} {m : Env → Rz (List EV)} {g : List EV → Rz EV} (hc : CallD X C (.type T) g) (ng : NoExcL g) (hm : X.mg x = none) (hv : bootBuiltins x = some (.type T)) (ha : DA X C W (e :: es) m) (hg : Gl X x := by rfl) (hn : x ≠ "__name__" := by decide) (hdb : (x == ("__debug__" : Str)) = false := by decide)
    (he : starEach (e :: es) X.env = (false, eval e X.env) :: starEach es X.env := by rfl) (hpl : (backTo pos (starEach es X.env)).any (·.1) = false := by rfl) : DE X C W (.Call (.Name x p) (e :: es) [] pos) (mCall m g) := by
  obtain ⟨r, h1, h2⟩ := hc
  exact ⟨PE.imp (pe_callTy h1 hg hm hv ha.pa hn hdb he hpl) fun σ H Q h => callD_go ng h2 h⟩
def g1 (f : D → Option D) : List EV → Rz EV
  | [a] => orStuck (f a.d) >>= fun d => .ok (.fz d)
  | _ => .stuck
@[simp] theorem g1_one (f : D → Option D) (a : EV) : g1 f [a] = orStuck (f a.d) >>= fun d => .ok (.fz d) := rfl
theorem ne_g1 {f : D → Option D} : NoExcL (g1 f) := ⟨fun a e h => by
  unfold g1 at h
  split at h
  · exact noexc_bind (fun _ _ z => by cases z) e h
  · cases h⟩
theorem cd_g1 {fv : Value} {f : D → Option D} {r : List V → Hp → VK → Prop} (hr : CallR X fv r) (h : ∀ (H : Hp) (x : V) (a d : D) (Q : VK), Rep (kc X C) H x a → f a = some d → (∀ v G, Rep (kc X C) G v d → Q v H) → r [x] H Q) (hs : ∀ a d, f a = some d → (∃ i, d = .int i) ∨ (∃ i, d = .bl i) ∨ (∃ i, d = .str i)) : CallD X C fv (g1 f) :=
  ⟨r, hr, fun Z G H Hs vs evs ev Q s zh va hg q => by
    unfold g1 at hg
    split at hg
    · rename_i a
      obtain ⟨v, rfl, k⟩ := evs1 va
      cases hf : f a.d with
      | none => rw [hf] at hg; cases hg
      | some d =>
        rw [hf] at hg
        cases hg
        refine h H v a.d d Q (k.rep s) hf fun u G' ru => ?_
        have ru' : Rep (kc X C) G u d := by
          rcases hs _ _ hf with ⟨i, rfl⟩ | ⟨i, rfl⟩ | ⟨i, rfl⟩
          · rw [rep_int ru]; exact .int i
          · rw [rep_bl ru]; exact .bl i
          · rw [rep_str ru]; exact .str i
        exact q u G H (.refl s) ru'
    · cases hg⟩
def lenD : D → Option D
  | .lst ds => some (.int ds.length)
  | .tup ds => some (.int ds.length)
  | .scr ns => some (.int ns.length)
  | .str z => if z.length ≤ sizeLine then some (.int z.length) else none
  | _ => none
abbrev gLen := g1 lenD
theorem cd_len : CallD X C (.builtin "len") gLen := cd_g1 call_len (fun H x a d Q r h q => by
    unfold lenD at h
    split at h
    · cases h
      cases r with
      | @lst p us ds e r => exact ⟨_, us.length, rfl, .inl ⟨us, .of e, rfl⟩, by rw [r.length]; exact q _ H (.int _)⟩
    · cases h
      cases r with
      | @tup p us ds e r => exact ⟨_, us.length, rfl, .inr ⟨us, .of e, rfl⟩, by rw [r.length]; exact q _ H (.int _)⟩
    · cases h
      cases r with
      | @scr p ns e => exact ⟨_, _, rfl, .inl ⟨_, e, rfl⟩, by rw [List.length_map]; exact q _ H (.int _)⟩
    · rename_i z
      split at h
      · rename_i hz
        cases h
        cases r
        exact ⟨_, z.length, rfl, ⟨hz, rfl⟩, q _ H (.int _)⟩
      · cases h
    · cases h) fun a d h => by
  unfold lenD at h
  split at h <;> first | (cases h; exact .inl ⟨_, rfl⟩) | skip
  · split at h
    · cases h; exact .inl ⟨_, rfl⟩
    · cases h
  · cases h
def absD : D → Option D
  | .int i => some (.int (if i < 0 then -i else i))
  | _ => none
abbrev gAbs := g1 absD
theorem cd_abs : CallD X C (.builtin "abs") gAbs := cd_g1 call_abs (fun H x a d Q r h q => by
    unfold absD at h
    split at h
    · cases h
      cases r
      exact ⟨_, rfl, q _ H (.int _)⟩
    · cases h) fun a d h => by
  unfold absD at h
  split at h
  · cases h; exact .inl ⟨_, rfl⟩
  · cases h
def intD : D → Option D
  | .int i => some (.int i)
  | .bl b => some (.int (if b then 1 else 0))
  | _ => none
abbrev gInt := g1 intD
theorem cd_int : CallD X C (.type "int") gInt := cd_g1 call_int1 (fun H x a d Q r h q => by
    unfold intD at h
    split at h
    · cases h
      cases r
      exact .inl ⟨_, rfl, q _ H (.int _)⟩
    · cases h
      cases r
      exact .inr ⟨_, rfl, q _ H (.int _)⟩
    · cases h) fun a d h => by
  unfold intD at h
  split at h
  · cases h; exact .inl ⟨_, rfl⟩
  · cases h; exact .inl ⟨_, rfl⟩
  · cases h
def gMM (f : Int → Int → Int) : List EV → Rz EV
  | [.fz (.int i), .fz (.int j)] => .ok (.fz (.int (f i j)))
  | _ => .stuck
@[simp] theorem gMM_two (f : Int → Int → Int) (i j : Int) : gMM f [.fz (.int i), .fz (.int j)] = .ok (.fz (.int (f i j))) := rfl
def bls : List D → Option (List Bool)
  | [] => some []
  | .bl b :: r => (bls r).map (b :: ·)
  | _ :: _ => none
theorem bls_ok : ∀ {ds : List D} {bs : List Bool}, bls ds = some bs → ds = bs.map D.bl
  | [], _, h => by cases h; rfl
  | .bl b :: r, bs, h => by
    have h' : (bls r).map (b :: ·) = some bs := h
    cases q : bls r with
    | none => rw [q] at h'; cases h'
    | some cs => rw [q] at h'; cases h'; rw [bls_ok q]; rfl
  | .non :: _, _, h | .int _ :: _, _, h | .str _ :: _, _, h | .tup _ :: _, _, h | .lst _ :: _, _, h | .scr _ :: _, _, h | .dct _ _ _ :: _, _, h | .ins _ _ :: _, _, h | .cls _ :: _, _, h | .ty _ :: _, _, h => by cases h
@[simp] theorem bls_map : ∀ bs : List Bool, bls (bs.map D.bl) = some bs
  | [] => rfl
  | b :: r => by show (bls (r.map D.bl)).map (b :: ·) = _; rw [bls_map r]; rfl
def allD (f : List Bool → Bool) : D → Option D
  | .lst ds => (bls ds).map fun bs => .bl (f bs)
  | _ => none
abbrev gAll := g1 (allD fun bs => bs.all id)
theorem allD_inv {f : List Bool → Bool} {a d : D} (h : allD f a = some d) : ∃ bs : List Bool, a = .lst (bs.map D.bl) ∧ d = .bl (f bs) := by
  unfold allD at h
  split at h
  · rename_i ds
    cases q : bls ds with
    | none => rw [q] at h; cases h
    | some bs => rw [q] at h; cases h; exact ⟨bs, by rw [bls_ok q], rfl⟩
  · cases h
theorem cd_all (hc : X.calm = true) : CallD X C (.builtin "all") gAll := cd_g1 (cr_all hc) (fun H x a d Q r h q => by
    obtain ⟨bs, rfl, rfl⟩ := allD_inv h
    cases r with
    | @lst p us ds e r => rw [Reps.of_bls r] at e; exact ⟨p, bs, rfl, .of e, q _ H (.bl _)⟩) fun a d h => by
  obtain ⟨bs, rfl, rfl⟩ := allD_inv h
  exact .inr (.inl ⟨_, rfl⟩)
def strsD : List D → Option (List Str)
  | [] => some []
  | .str b :: r => (strsD r).map (b :: ·)
  | _ :: _ => none
theorem strsD_ok : ∀ {ds : List D} {bs : List Str}, strsD ds = some bs → ds = bs.map D.str
  | [], _, h => by cases h; rfl
  | .str b :: r, bs, h => by
    have h' : (strsD r).map (b :: ·) = some bs := h
    cases q : strsD r with
    | none => rw [q] at h'; cases h'
    | some cs => rw [q] at h'; cases h'; rw [strsD_ok q]; rfl
  | .non :: _, _, h | .int _ :: _, _, h | .bl _ :: _, _, h | .tup _ :: _, _, h | .lst _ :: _, _, h | .scr _ :: _, _, h | .dct _ _ _ :: _, _, h | .ins _ _ :: _, _, h | .cls _ :: _, _, h | .ty _ :: _, _, h => by cases h
@[simp] theorem strsD_map : ∀ bs : List Str, strsD (bs.map D.str) = some bs
  | [] => rfl
  | b :: r => by show (strsD (r.map D.str)).map (b :: ·) = _; rw [strsD_map r]; rfl
def isS : EV → Rz Str
  | .fz (.str s) => .ok s
  | _ => .stuck
@[simp] theorem isS_str (s : Str) : isS (.fz (.str s)) = .ok s := rfl
def mM1 (ma mb : Env → Rz EV) (g : Str → EV → Rz EV) : Env → Rz EV := fun env => ma env >>= fun a => isS a >>= fun s => mb env >>= fun b => g s b
def newStrs (ys : List Str) : EV := .ow true (.lst (ys.map .str))
def gSplit (s : Str) (b : EV) : Rz EV := match b with
  | .fz (.str z) => if (z.length == 0) = false ∧ s.length + 2 ≤ sizeLine then .ok (newStrs (Txt.split s z)) else .stuck
  | _ => .stuck
@[simp] theorem gSplit_str (s z : Str) : gSplit s (.fz (.str z)) = if (z.length == 0) = false ∧ s.length + 2 ≤ sizeLine then .ok (newStrs (Txt.split s z)) else .stuck := rfl
def cutD (xs : List D) (lo hi : Option Int) : List D := (xs.drop (HT.sIx xs.length 0 lo)).take (HT.sIx xs.length xs.length hi - HT.sIx xs.length 0 lo)
theorem cut_reps {K : KC} {G : Hp} {vs : List V} {ds : List D} {lo hi : Option Int} (r : Reps K G vs ds) : Reps K G (cutV vs lo hi) (cutD ds lo hi) := by
  unfold cutV cutD
  rw [r.length]
  exact (r.drop _).take _
def mPart (m : Option (Env → Rz EV)) : Env → Rz (Option Int) := fun env => match m with
  | none => .ok none
  | some m => m env >>= fun a => match a with
    | .fz (.int i) => .ok (some i)
    | _ => .stuck
def gSl (a : EV) (lo hi : Option Int) : Rz EV := match a with
  | .fz (.lst ds) => .ok (.ow true (.lst (cutD ds lo hi)))
  | .ow _ (.lst ds) => .ok (.ow true (.lst (cutD ds lo hi)))
  | .fz (.tup ds) => .ok (.fz (.tup (cutD ds lo hi)))
  | .fz (.str z) => if z.length ≤ sizeLine then .ok (.fz (.str (cutS z lo hi))) else .stuck
  | _ => .stuck
def mSl (m : Env → Rz EV) (lo hi : Option (Env → Rz EV)) : Env → Rz EV := fun env => m env >>= fun a => mPart lo env >>= fun l => mPart hi env >>= fun h => gSl a l h
def tO (K : KC) (W : WX) (m : Env → Rz (Option Int)) : TO := fun σ H Q => ∃ Z G env, ER K Z G H σ env ∧ match m env with
  | .ok o => ∀ G' H', Ext G H G' H' → Q o H'
  | .exc e => ∀ cls d G' H', Ext G H G' H' → ExcOk K G' H' cls d e → W cls d σ H'
  | .stuck => False
structure DO (X : Cx) (C : CT) (W : WX) (e : Option Expr) (m : Option (Env → Rz EV)) : Prop where
  po : PO X e (tO (kc X C) W (mPart m))
theorem PO.imp {e : Option Expr} {t t' : TO} (h : PO X e t) (k : ∀ σ H Q, t' σ H Q → t σ H Q) : PO X e t' := ⟨fun pins s σ H Q I q => h.run pins s σ H Q I (k _ _ _ q)⟩
theorem do_none : DO X C W none none := ⟨PO.imp po_none fun σ H Q ⟨Z, G, env, er, q⟩ => q G H (.refl er.sub)⟩
theorem do_some {e : Expr} {m : Env → Rz EV} (h : DE X C W e m) : DO X C W (some e) (some m) := ⟨PO.imp (po_some h.pe) fun σ H Q ⟨Z, G, env, er, q⟩ => by
  unfold mPart at q
  dsimp only at q
  refine ⟨Z, G, env, er, ?_⟩
  cases ha : m env with
  | stuck => rw [ha] at q; exact q.elim
  | exc e => rw [ha] at q; exact q
  | ok a =>
    rw [ha] at q
    simp only [Rz.ok_bind] at q
    intro v G1 H1 x1 va
    cases a with
    | ow n w => exact q.elim
    | fz d =>
      cases d with
      | int i => exact ⟨i, rep_int va, q G1 H1 x1⟩
      | _ => exact q.elim⟩
def rSlX (K : PySem.W.Frag) : V → Option Int → Option Int → Hp → VK → Prop := fun x lo hi H Q => rSlL K x lo hi H Q ∨ rSlA K x lo hi H Q ∨ (∃ z, x = .str z ∧ z.length ≤ sizeLine ∧ Q (.str (cutS z lo hi)) H)
theorem sl_any (hs : SlR X (fun x lo hi H Q => ∃ z, x = .str z ∧ z.length ≤ sizeLine ∧ Q (.str (cutS z lo hi)) H)) : SlR X (rSlX X.K) := SlR.or sl_list (SlR.or sl_tupA hs)
theorem mPart_go {m : Option (Env → Rz EV)} {f : Option Int → Env → Rz EV} {Z : Ent} {G H : Hp} {σ : L2.St} {env : Env} {R : Option Int → Hp → Prop} {Q : VK} (er : ER (kc X C) Z G H σ env)
    (q : match (mPart m env >>= fun l => f l env) with
      | .ok ev => ∀ v G' H', Ext G H G' H' → EVok (kc X C) Z H G' H' v ev → Q v H'
      | .exc e => ∀ cls d G' H', Ext G H G' H' → ExcOk (kc X C) G' H' cls d e → W cls d σ H'
      | .stuck => False)
    (hR : ∀ l G1 H1, Ext G H G1 H1 → ER (kc X C) Z G1 H1 σ env → (match f l env with
      | .ok ev => ∀ v G' H', Ext G1 H1 G' H' → EVok (kc X C) Z H1 G' H' v ev → Q v H'
      | .exc e => ∀ cls d G' H', Ext G1 H1 G' H' → ExcOk (kc X C) G' H' cls d e → W cls d σ H'
      | .stuck => False) → R l H1) : tO (kc X C) W (mPart m) σ H R := by
  refine ⟨Z, G, env, er, ?_⟩
  cases ha : mPart m env with
  | stuck => rw [ha] at q; exact q.elim
  | exc e => rw [ha] at q; exact q
  | ok l =>
    rw [ha] at q
    simp only [Rz.ok_bind] at q
    refine fun G1 H1 x1 => hR l G1 H1 x1 (er.ext x1) ?_
    cases hb : f l env with
    | stuck => rw [hb] at q; exact q.elim
    | exc e => rw [hb] at q; exact fun cls d G' H' x2 => q cls d G' H' (x1.trans x2)
    | ok b => rw [hb] at q; exact fun v G' H' x2 vb => q v G' H' (x1.trans x2) (vb.start x1.h)
theorem gSl_exc {a : EV} {l h : Option Int} {e : Exn} : gSl a l h ≠ .exc e := by
  unfold gSl
  split <;> first | (intro z; cases z) | (split <;> (intro z; cases z))
theorem cut_whole {ds : List D} {lo hi : Option Int} (h : HT.sIx ds.length 0 lo = 0 ∧ HT.sIx ds.length ds.length hi = ds.length) : cutD ds lo hi = ds := by
  unfold cutD
  rw [h.1, h.2]
  simp
theorem de_sl {e : Expr} {lo hi : Option Expr} {m : Env → Rz EV} {ml mh : Option (Env → Rz EV)} {p2 pos : Pos} (h : DE X C W e m) (hl : DO X C W lo ml) (hh : DO X C W hi mh) :
    DE X C W (.Subscript e (.Slice lo hi none p2) pos) (mSl m ml mh) :=
  ⟨PE.imp (pe_slice (sl_any sl_str) h.pe hl.po hh.po) fun σ H Q ⟨Z, G, env, er, q⟩ => by
    unfold mSl at q
    refine ⟨Z, G, env, er, ?_⟩
    cases ha : m env with
    | stuck => rw [ha] at q; exact q.elim
    | exc e => rw [ha] at q; exact q
    | ok a =>
      rw [ha] at q
      simp only [Rz.ok_bind] at q
      intro v G1 H1 x1 va
      have er1 := er.ext x1
      have q1 : match (mPart ml env >>= fun l => (fun l env => mPart mh env >>= fun h => gSl a l h) l env) with
        | .ok ev => ∀ v G' H', Ext G1 H1 G' H' → EVok (kc X C) Z H1 G' H' v ev → Q v H'
        | .exc e => ∀ cls d G' H', Ext G1 H1 G' H' → ExcOk (kc X C) G' H' cls d e → W cls d σ H'
        | .stuck => False := by
        cases hz : (mPart ml env >>= fun l => mPart mh env >>= fun h => gSl a l h) with
        | stuck => rw [hz] at q; exact q.elim
        | exc e => rw [hz] at q; exact fun cls d G' H' x2 => q cls d G' H' (x1.trans x2)
        | ok b => rw [hz] at q; exact fun v G' H' x2 vb => q v G' H' (x1.trans x2) (vb.start x1.h)
      refine mPart_go (f := fun l env => mPart mh env >>= fun h => gSl a l h) (Q := Q) er1 q1 fun l G2 H2 x2 er2 q2 => ?_
      refine mPart_go (f := fun h _ => gSl a l h) (Q := Q) er2 q2 fun h G3 H3 x3 er3 q3 => ?_
      have va3 := va.ext (x2.trans x3)
      have s3 := er3.sub
      cases hg : gSl a l h with
      | stuck => rw [hg] at q3; exact q3.elim
      | exc e => exact absurd hg gSl_exc
      | ok ev =>
        rw [hg] at q3
        dsimp only at q3
        unfold gSl at hg
        split at hg
        · rename_i ds
          cases hg
          have va' : Rep (kc X C) G3 v (.lst ds) := va3
          cases va' with
          | @lst p us _ e r => exact .inl ⟨p, us, rfl, .of (s3 _ _ e), giveL s3 er3.zh (cut_reps r) q3⟩
        · cases hg
          obtain ⟨p, e, ⟨us, e', r⟩, _⟩ := va3
          exact .inl ⟨p, us, e, .of e', giveL s3 er3.zh (cut_reps r) q3⟩
        · rename_i ds
          cases hg
          have va' : Rep (kc X C) G3 v (.tup ds) := va3
          cases va' with
          | @tup p us _ e r =>
            refine .inr (.inl ⟨p, us, rfl, .of (s3 _ _ e), fun hw => ?_, fun _ => giveT s3 (cut_reps r) q3⟩)
            rw [r.length] at hw
            rw [cut_whole hw] at q3
            exact q3 _ G3 H3 (.refl s3) (.tup e r)
        · rename_i z
          split at hg
          · rename_i hz
            cases hg
            exact .inr (.inr ⟨z, rep_str va3, hz, giveS s3 q3⟩)
          · cases hg
        · cases hg⟩
def mApp (i : Nat) (m : Env → Rz EV) : Env → Out := fun env => match env.getD i .no with
  | .own (.lst ds) => (match m env with
    | .ok a => (match a.fr with
      | .fz d => if ds.length < sizeLine then .nx (env.set i (.own (.lst (ds ++ [d])))) else .stuck
      | _ => .stuck)
    | .exc e => .exc e env
    | .stuck => .stuck)
  | _ => .stuck
theorem tyV_list {K : PySem.W.Frag} {H : Hp} {p : Addr} {vs : List V} (h : H p = some (.lst vs)) : tyV K "list" (.ref p) H := Or.inl ⟨rfl, _, Or.inl (Or.inl h)⟩
theorem ds_app (i : Nat) {x : Str} {e : Expr} {m : Env → Rz EV} {xp apos cpos pos : Pos} (he : DE X C W e m) (hN : X.N[i]? = some x := by rfl) (hv : Vis X.env.scope x := by first | exact Or.inl rfl | exact Or.inr (Or.inl rfl) | exact Or.inr (Or.inr rfl)) (hd : (x == ("__debug__" : Str)) = false := by decide)
    (hcd : (x == ("__classdict__" : Str)) = false := by decide)
    (hbase : attributeBase (.Name x xp) "append" X.env (eval (.Name x xp) X.env) = eval (.Name x xp) X.env := by rfl)
    (hfew : ((backTo cpos (starEach [e] X.env)).all (fun x => !x.1) && (backToKw cpos (keywordEach [] X.env)).all (fun x => x.1.isSome)
      && decide ([e].length + ([] : List Keyword).length + (if ([] : List Keyword).isEmpty then 0 else 1) < 30)) = true := by rfl)
    (hline : (apos.endLine == cpos.line) = true := by rfl) (hs : starEach [e] X.env = (false, eval e X.env) :: starEach [] X.env := by rfl) (hplain : (backTo cpos (starEach [] X.env)).any (·.1) = false := by rfl)
    (hsw : swapsWith (.Call (.Attribute (.Name x xp) "append" apos) [e] [] cpos) none pos.line X.env = pure false := by rfl) :
    DS X C W (.Expr (.Call (.Attribute (.Name x xp) "append" apos) [e] [] cpos) pos) (mApp i m) :=
  ⟨PS.imp (ps_expr (pe_bm PySem.F.plainAttrs_list PySem.F.slot_list_append PySem.F.type_list_append mt_append (pe_var hN hv hd hcd) (pa_cons he.pe pa_nil hs) hbase hfew hline hs hplain) hsw) fun D σ H ⟨Z, G, env, er, q⟩ => by
    unfold mApp at q
    split at q
    · rename_i ds hi
      have hi := getD_some hi (by simp)
      obtain ⟨v, h1, p, rfl, us, h3, h4⟩ := er.at' i _ hi
      refine ⟨.ref p, h1, tyV_list h3, Z, G, env, er, ?_⟩
      cases ha : m env with
      | stuck => rw [ha] at q; exact q.elim
      | exc e =>
        rw [ha] at q
        exact fun cls d G' H' x k => q σ H' G' cls d x.g (er.ext x) k
      | ok a =>
        rw [ha] at q
        intro y G1 H1 x1 va
        obtain ⟨G2, s2, er2, va2⟩ := frz_go (er.ext x1) va fun p hp => (er.free hp).ext er x1
        dsimp only at q
        cases hf : a.fr with
        | ow n w => rw [hf] at q; exact q.elim
        | fz d =>
          rw [hf] at q va2
          dsimp only at q
          split at q
          · rename_i hz
            have hH1 := x1.h _ _ h3
            refine ⟨p, us, y, rfl, rfl, hH1, by rw [h4.length]; exact hz, q _ _ G2 (x1.g.trans s2) (er2.put hi h1 ⟨_, upd_same, ?_⟩)⟩
            exact (h4.mono (x1.g.trans s2)).append (.cons va2 .nil)
          · exact q.elim
    · exact q.elim⟩
end
end DL
namespace DL
open PySem PySem.Spec PyProof.Rows L2
section
variable {X : Cx} {C : CT} {W : WX}
def tyName : D → Option String
  | .non => some "NoneType"
  | .bl _ => some "bool"
  | .int _ => some "int"
  | .str _ => some "str"
  | .tup _ => some "tuple"
  | .lst _ => some "list"
  | .scr _ => some "list"
  | _ => none
theorem ty_of {K : KC} {H : Hp} {x : V} {d : D} {t : String} (r : Rep K H x d) (h : tyName d = some t) : TyX K.K H x (.type t) := by
  cases r with
  | non => cases h; exact .base .non
  | bl b => cases h; exact .base (.bl b)
  | int i => cases h; exact .base (.int i)
  | str s => cases h; exact .base (.str s)
  | tup sq r =>
    cases h
    exact .base (.tup sq)
  | lst e r => cases h; exact .base (.lst e)
  | scr sq =>
    cases h
    rcases sq with (e | ⟨o, e⟩) | ⟨o, its, n, e, c, _⟩
    · exact .base (.lst e)
    · exact .base (.frz e)
    · exact .kList e c
  | dk e r => cases h
  | dt e r => cases h
  | ty _ => cases h
  | cls _ => cases h
  | ins _ _ _ => cases h
def isTy (T : String) (d : D) : Option Bool := (tyName d).bind fun t => kitB t T
def gIsi : List EV → Rz EV
  | [a, .fz (.ty T)] => orStuck (isTy T a.d) >>= fun k => .ok (.fz (.bl k))
  | _ => .stuck
@[simp] theorem gIsi_ty (a : EV) (T : String) : gIsi [a, .fz (.ty T)] = orStuck (isTy T a.d) >>= fun k => .ok (.fz (.bl k)) := rfl
theorem ne_gIsi : NoExcL gIsi := ⟨fun a e h => by
  unfold gIsi at h
  split at h
  · exact noexc_bind (fun _ _ z => by cases z) e h
  · cases h⟩
theorem cd_isi : CallD X C (.builtin "isinstance") gIsi := ⟨_, call_isi, fun Z G H Hs vs evs ev Q s zh va hg q => by
  unfold gIsi at hg
  split at hg
  · rename_i a T
    obtain ⟨v, u, rfl, k, l⟩ := evs2 va
    have l' : Rep (kc X C) G u (.ty T) := l
    cases l'
    unfold isTy at hg
    cases ht : tyName a.d with
    | none => rw [ht] at hg; cases hg
    | some t =>
      rw [ht] at hg
      simp only [Option.bind_some] at hg
      cases hk : kitB t T with
      | none => rw [hk] at hg; cases hg
      | some b =>
        rw [hk] at hg
        cases hg
        exact ⟨v, .ty T, .type t, .type T, b, rfl, .ty T, ty_of (k.rep s) ht, kit_ty hk, giveB s q⟩
  · cases hg⟩
theorem de_bltn {x : Str} {n : String} {pos : Pos} (hm : X.mg x = none) (hv : bootBuiltins x = some (.type n)) (hg : Gl X x := by rfl) (hn : x ≠ "__name__" := by decide) (hd : (x == ("__debug__" : Str)) = false := by decide) : DE X C W (.Name x pos) (mC (.ty n)) :=
  de_of_val (pe_bltn hg hm hv (v := .ty n) rfl hn hd) fun _ => .ty n
theorem isTy_bl (T : String) (b : Bool) : isTy T (.bl b) = kitB "bool" T := rfl
theorem isTy_int (T : String) (b : Int) : isTy T (.int b) = kitB "int" T := rfl
theorem isTy_str (T : String) (b : Str) : isTy T (.str b) = kitB "str" T := rfl
theorem isTy_tup (T : String) (b : List D) : isTy T (.tup b) = kitB "tuple" T := rfl
theorem isTy_lst (T : String) (b : List D) : isTy T (.lst b) = kitB "list" T := rfl
theorem kitB_bb : kitB "bool" "bool" = some true := by decide +kernel
theorem kitB_ib : kitB "int" "bool" = some false := by decide +kernel
theorem kitB_ii : kitB "int" "int" = some true := by decide +kernel
theorem kitB_sb : kitB "str" "bool" = some false := by decide +kernel
theorem kitB_si : kitB "str" "int" = some false := by decide +kernel
theorem kitB_ss : kitB "str" "str" = some true := by decide +kernel
theorem kitB_tb : kitB "tuple" "bool" = some false := by decide +kernel
theorem kitB_ti : kitB "tuple" "int" = some false := by decide +kernel
theorem kitB_ts : kitB "tuple" "str" = some false := by decide +kernel
theorem kitB_tt : kitB "tuple" "tuple" = some true := by decide +kernel
theorem kitB_tl : kitB "tuple" "list" = some false := by decide +kernel
theorem kitB_lb : kitB "list" "bool" = some false := by decide +kernel
theorem kitB_li : kitB "list" "int" = some false := by decide +kernel
theorem kitB_ls : kitB "list" "str" = some false := by decide +kernel
theorem kitB_lt : kitB "list" "tuple" = some false := by decide +kernel
theorem kitB_ll : kitB "list" "list" = some true := by decide +kernel
mutual
def pureD : D → Bool
  | .non | .bl _ | .int _ | .str _ | .ty _ | .cls _ => true
  | .tup ds => pureDs ds
  | _ => false
def pureDs : List D → Bool
  | [] => true
  | d :: ds => pureD d && pureDs ds
end
def tups (H : Hp) : Hp := fun a => match H a with
  | some (.tup vs) => some (.tup vs)
  | some (.frz o (.tup vs)) => some (.frz o (.tup vs))
  | some (.xd fs) => some (.xd fs)
  | _ => none
theorem tups_sub (H : Hp) : Sub (tups H) H := fun a o e => by
  unfold tups at e
  split at e
  · rename_i vs h; rw [h, e]
  · rename_i ob vs h; rw [h, e]
  · rename_i fs h; rw [h, e]
  · cases e
theorem tups_get {H : Hp} {a : Addr} {vs : List V} (h : H a = some (.tup vs)) : tups H a = some (.tup vs) := by unfold tups; rw [h]
theorem tups_getX {H : Hp} {a : Addr} {fs : List (Str × V)} (h : H a = some (.xd fs)) : tups H a = some (.xd fs) := by unfold tups; rw [h]
mutual
theorem pure_rep {K : KC} {H : Hp} : ∀ {v : V} {d : D}, Rep K H v d → pureD d = true → Rep K (tups H) v d
  | _, _, .non, _ => .non
  | _, _, .bl b, _ => .bl b
  | _, _, .int i, _ => .int i
  | _, _, .str x, _ => .str x
  | _, _, .ty n, _ => .ty n
  | _, _, .cls e, _ => .cls e
  | _, _, .tup sq r, h => .tup (tups_get sq) (pure_reps r (by unfold pureD at h; exact h))
  | _, _, .lst _ _, h => by unfold pureD at h; cases h
  | _, _, .scr _, h => by unfold pureD at h; cases h
  | _, _, .dk _ _, h => by unfold pureD at h; cases h
  | _, _, .dt _ _, h => by unfold pureD at h; cases h
  | _, _, .ins _ _ _, h => by unfold pureD at h; cases h
theorem pure_reps {K : KC} {H : Hp} : ∀ {vs : List V} {ds : List D}, Reps K H vs ds → pureDs ds = true → Reps K (tups H) vs ds
  | _, _, .nil, _ => .nil
  | _, _, .cons a b, h => by
    unfold pureDs at h
    obtain ⟨h1, h2⟩ := Bool.and_eq_true_iff.mp h
    exact .cons (pure_rep a h1) (pure_reps b h2)
end
def pureFs (fs : List (Str × D)) : Bool := fs.all fun f => pureD f.2
theorem pure_repF {K : KC} {H : Hp} : ∀ {vs : List (Str × V)} {ds : List (Str × D)}, RepF K H vs ds → pureFs ds = true → RepF K (tups H) vs ds
  | _, _, .nil, _ => .nil
  | _, _, .cons a b, h => by
    unfold pureFs at h
    rw [List.all_cons] at h
    obtain ⟨h1, h2⟩ := Bool.and_eq_true_iff.mp h
    exact .cons (pure_rep a h1) (pure_repF b h2)
def orH (A B : Hp) : Hp := fun a => match A a with
  | some o => some o
  | none => B a
theorem orH_l (A B : Hp) : Sub A (orH A B) := fun a o e => by unfold orH; rw [e]
theorem orH_r {A B H : Hp} (h : Sub A H) (k : Sub B H) : Sub B (orH A B) := fun a o e => by
  unfold orH
  cases q : A a with
  | none => exact e
  | some u' =>
    have h1 := h a u' q
    have h2 := k a o e
    rw [h1] at h2
    exact h2
theorem orH_none {A B : Hp} {a : Addr} (h : A a = none) : orH A B a = B a := by unfold orH; rw [h]
theorem tups_nt {H : Hp} {a : Addr} (h : NT H a) : tups H a = none := by
  obtain ⟨o, e, k⟩ := h
  unfold tups
  rw [e]
  split
  · rename_i h; cases h; cases k
  · rename_i h; cases h; cases k
  · rename_i h; cases h; cases k
  · rfl
theorem orH_sub {A B H : Hp} (h : Sub A H) (k : Sub B H) : Sub (orH A B) H := fun a o e => by
  unfold orH at e
  cases q : A a with
  | none => rw [q] at e; exact k a o e
  | some u' => rw [q] at e; cases e; exact h a _ q
def allFzB : List EV → Bool
  | [] => true
  | .fz _ :: r => allFzB r
  | _ :: _ => false
def lend : EV → Rz EV
  | .fz d => if pureD d = true then .ok (.fz d) else .stuck
  | .ow true (.lst ds) => if pureDs ds = true then .ok (.ow true (.lst ds)) else .stuck
  | .ow true (.ins c fs) => if pureFs fs = true then .ok (.ow true (.ins c fs)) else .stuck
  | _ => .stuck
def own? : EV → EV
  | .ow _ w => .ow true w
  | e => e
def appF (F : Fn) (evs : List EV) : Rz EV := match F (evs.map EV.d) with
  | .ok r => if allFzB evs = true then .ok (own? r) else lend (own? r)
  | .exc e => if allFzB evs = true then .exc e else if pureFs e.fs = true then .exc e else .stuck
  | .stuck => .stuck
theorem EVs.reps {K : KC} {Z : Ent} {Hs G H : Hp} (s : Sub G H) : ∀ {vs : List V} {evs : List EV}, EVs K Z Hs G H vs evs → Reps K H vs (evs.map EV.d)
  | _, _, .nil => .nil
  | _, _, .cons a b => .cons (a.rep s) (b.reps s)
theorem EVs.repsF {K : KC} {Z : Ent} {Hs G H : Hp} : ∀ {vs : List V} {evs : List EV}, EVs K Z Hs G H vs evs → allFzB evs = true → Reps K G vs (evs.map EV.d)
  | _, _, .nil, _ => .nil
  | _, _, .cons (e := .fz d) a b, h => .cons a (b.repsF h)
  | _, _, .cons (e := .ow n w) a b, h => by cases h
theorem EVs.length {K : KC} {Z : Ent} {Hs G H : Hp} : ∀ {vs : List V} {evs : List EV}, EVs K Z Hs G H vs evs → vs.length = evs.length
  | _, _, .nil => rfl
  | _, _, .cons a b => congrArg Nat.succ b.length
theorem ask_fn {F : Fn} {n : Nat} {Z : Ent} {G1 H1 : Hp} {σ : L2.St} {env : Env} {vs : List V} {evs : List EV} {Hs : Hp} {Q : VK} {E : XK} (er : ER (kc X C) Z G1 H1 σ env) (va : EVs (kc X C) Z Hs G1 H1 vs evs) (hn : evs.length = n)
    (q : match appF F evs with
      | .ok ev => ∀ v G' H', Ext G1 H1 G' H' → EVok (kc X C) Z H1 G' H' v ev → Q v H'
      | .exc e => ∀ cls d G' H', Ext G1 H1 G' H' → ExcOk (kc X C) G' H' cls d e → E cls d H'
      | .stuck => False) : spD (kc X C) n F vs H1 Q E := by
  unfold appF at q
  have zz : ∀ {G' H' : Hp} {v : V} {ev : EV} {G0 : Hp}, EVok (kc X C) ⟨G0, H1⟩ H1 G' H' v ev → EVok (kc X C) Z H1 G' H' v (own? ev) := fun {G' H' v ev G0} k => by
    cases ev with
    | fz d => exact k
    | ow n w =>
      obtain ⟨p, e, h1, h2, h3, h4⟩ := k
      exact ⟨p, e, h1, h2, er.zh.none h3, fun _ => h3⟩
  by_cases hf : allFzB evs = true
  · refine ⟨G1, evs.map EV.d, er.sub, va.repsF hf, by rw [List.length_map]; exact hn, ?_⟩
    cases hF : F (evs.map EV.d) with
    | stuck => rw [hF] at q; exact q
    | exc e =>
      rw [hF] at q
      dsimp only at q
      rw [if_pos hf] at q
      exact q
    | ok ev =>
      rw [hF] at q
      dsimp only at q
      rw [if_pos hf] at q
      exact fun v G' H' x k => q v G' H' x (zz k)
  · refine ⟨H1, evs.map EV.d, .refl, va.reps er.sub, by rw [List.length_map]; exact hn, ?_⟩
    have lower : ∀ {G' H' : Hp}, Ext H1 H1 G' H' → Ext G1 H1 (orH G1 (tups H')) H' := fun {G' H'} x =>
      ⟨orH_l _ _, x.h, orH_sub (er.sub.trans x.h) (tups_sub H'), fun a e n => by rw [orH_none e]; exact tups_nt (n.mono x.h)⟩
    cases hF : F (evs.map EV.d) with
    | stuck => rw [hF] at q; exact q
    | exc e =>
      rw [hF] at q
      dsimp only at q
      rw [if_neg hf] at q
      intro cls d G' H' x k
      by_cases hp : pureFs e.fs = true
      · rw [if_pos hp] at q
        refine q cls d _ H' (lower x) ?_
        obtain ⟨a, h1, h2, h3⟩ := k
        refine ⟨a, h1, h2, ?_⟩
        rcases h3 with h3 | ⟨dd, fs, h3, h4, h5⟩
        · exact .inl h3
        · exact .inr ⟨dd, fs, h3, orH_r (er.sub.trans x.h) (tups_sub H') _ _ (tups_getX (x.s _ _ h4)), (pure_repF (h5.mono x.s) hp).mono (orH_r (er.sub.trans x.h) (tups_sub H'))⟩
      · rw [if_neg hp] at q; exact q.elim
    | ok ev =>
      rw [hF] at q
      dsimp only at q
      rw [if_neg hf] at q
      intro v G' H' x k
      have lo := lower x
      have tr : Sub (tups H') (orH G1 (tups H')) := orH_r (er.sub.trans x.h) (tups_sub H')
      cases ev with
      | fz d =>
        have q' : match (if pureD d = true then Rz.ok (EV.fz d) else .stuck) with
          | .ok ev => ∀ v G' H', Ext G1 H1 G' H' → EVok (kc X C) Z H1 G' H' v ev → Q v H'
          | .exc e => ∀ cls d G' H', Ext G1 H1 G' H' → ExcOk (kc X C) G' H' cls d e → E cls d H'
          | .stuck => False := q
        by_cases hp : pureD d = true
        · rw [if_pos hp] at q'
          exact q' v _ H' lo ((pure_rep (Rep.mono x.s k) hp).mono tr)
        · rw [if_neg hp] at q'; exact q'.elim
      | ow n w =>
        obtain ⟨p, e, h1, h2, h3, h4⟩ := k
        cases w with
        | dct t kvs => exact q.elim
        | ins c fs =>
          have q' : match (if pureFs fs = true then Rz.ok (EV.ow true (.ins c fs)) else .stuck) with
            | .ok ev => ∀ v G' H', Ext G1 H1 G' H' → EVok (kc X C) Z H1 G' H' v ev → Q v H'
            | .exc e => ∀ cls d G' H', Ext G1 H1 G' H' → ExcOk (kc X C) G' H' cls d e → E cls d H'
            | .stuck => False := q
          by_cases hp : pureFs fs = true
          · rw [if_pos hp] at q'
            obtain ⟨Ca, dx, vs, qc, e1, r1⟩ := h1
            have h3' : H1 p = none := h3
            refine q' v _ H' lo ⟨p, e, ⟨Ca, dx, vs, qc, e1, (pure_repF (r1.mono x.s) hp).mono tr⟩, ?_, er.zh.none h3', fun _ => h3'⟩
            rw [orH_none (er.sub.none h3')]
            exact tups_nt ⟨_, e1, rfl⟩
          · rw [if_neg hp] at q'; exact q'.elim
        | self c fs => exact q.elim
        | wlk ds => exact q.elim
        | lst ds =>
          have q' : match (if pureDs ds = true then Rz.ok (EV.ow true (.lst ds)) else .stuck) with
            | .ok ev => ∀ v G' H', Ext G1 H1 G' H' → EVok (kc X C) Z H1 G' H' v ev → Q v H'
            | .exc e => ∀ cls d G' H', Ext G1 H1 G' H' → ExcOk (kc X C) G' H' cls d e → E cls d H'
            | .stuck => False := q
          by_cases hp : pureDs ds = true
          · rw [if_pos hp] at q'
            obtain ⟨vs, e1, r1⟩ := h1
            have h3' : H1 p = none := h3
            refine q' v _ H' lo ⟨p, e, ⟨vs, e1, (pure_reps (r1.mono x.s) hp).mono tr⟩, ?_, er.zh.none h3', fun _ => h3'⟩
            rw [orH_none (er.sub.none h3')]
            exact tups_nt ⟨_, e1, rfl⟩
          · rw [if_neg hp] at q'; exact q'.elim
def mFn (F : Fn) (a : Env → Rz (List EV)) (n : Nat) : Env → Rz EV := fun env => a env >>= fun evs => if evs.length = n then appF F evs else .stuck
theorem call_go {F : Fn} {n : Nat} {m : Env → Rz (List EV)} {σ : L2.St} {H : Hp} {Q : VK} (h : tE (kc X C) W (mFn F m n) σ H Q) : tCallS (spD (kc X C) n F) (WE W) (tA (kc X C) W m) σ H Q :=
  tA_seq (f := fun evs _ => if evs.length = n then appF F evs else .stuck) h fun Z G1 H1 env vs a er va hs q => by
    by_cases hn : a.length = n
    · rw [if_pos hn] at q
      exact ask_fn er va hn q
    · rw [if_neg hn] at q; exact q.elim
theorem de_fn {F : Fn} {k : Nat} {f : Addr} {fd : FuncData} {ps : List Str} {x : Str} {p pos : Pos} {e : Expr} {es : List Expr} {m : Env → Rz (List EV)} (FO : FnOk X.prog X.w X.K X.mg X.base (L2.CX X.prog X.w) k f fd ps (spD (kc X C) ps.length F)) (hr : Room k X.A) (hm : X.mg x = some (.ref f)) (hk : PySem.W.keepIn X.K (.ref f) = true) (hb : Binds X.K fd ps [])
    (tk : Takes X W) (ha : DA X C W (e :: es) m) (hg : Gl X x := by rfl) (hdb : (x == ("__debug__" : Str)) = false := by decide) (he : starEach (e :: es) X.env = (false, eval e X.env) :: starEach es X.env := by rfl) (hpl : (backTo pos (starEach es X.env)).any (·.1) = false := by rfl) :
    DE X C W (.Call (.Name x p) (e :: es) [] pos) (mFn F m ps.length) :=
  ⟨PE.imp (pe_callS FO hr hg hm hk hb (fun σ => passAt tk σ) ha.pa hdb he hpl) fun σ H Q h => call_go h⟩
end
end DL
namespace DL
open PySem PySem.Spec PyProof.Rows L2
section
variable {X : Cx} {C : CT} {W : WX}
def mChn (ma mb mc : Env → Rz EV) (g g' : EV → EV → Rz EV) : Env → Rz EV := fun env => ma env >>= fun a => mb env >>= fun b => g a b >>= fun r => asB r >>= fun k => if k = true then (mc env >>= fun c => g' b c) else .ok (.fz (.bl false))
theorem chn_go {g g' : EV → EV → Rz EV} {ma mb mc : Env → Rz EV} {r r' : R2} {σ : L2.St} {H : Hp} {Q : VK}
    (h2 : ∀ (Z : Ent) (G H Hs : Hp) (x y : V) (a b : EV) (Q : VK), Sub G H → Sub Z.H H → EVok (kc X C) Z Hs G H x a → EVok (kc X C) Z Hs G H y b →
      (match g a b with
        | .ok ev => ∀ v G' H', Ext G H G' H' → EVok (kc X C) Z H G' H' v ev → Q v H'
        | _ => False) → r x y H Q)
    (h2' : ∀ (Z : Ent) (G H Hs : Hp) (x y : V) (a b : EV) (Q : VK), Sub G H → Sub Z.H H → EVok (kc X C) Z Hs G H x a → EVok (kc X C) Z Hs G H y b →
      (match g' a b with
        | .ok ev => ∀ v G' H', Ext G H G' H' → EVok (kc X C) Z H G' H' v ev → Q v H'
        | _ => False) → r' x y H Q)
    (hg : NoExc g) (hg' : NoExc g') (h : tE (kc X C) W (mChn ma mb mc g g') σ H Q) : tChain r r' (tE (kc X C) W ma) (tE (kc X C) W mb) (tE (kc X C) W mc) σ H Q := by
  obtain ⟨Z, G, env, er, q⟩ := h
  unfold mChn at q
  refine ⟨Z, G, env, er, ?_⟩
  cases ea : ma env with
  | stuck => rw [ea] at q; exact q.elim
  | exc e => rw [ea] at q; exact q
  | ok a =>
    rw [ea] at q
    refine fun x G1 H1 x1 va => ⟨Z, G1, env, er.ext x1, ?_⟩
    cases eb : mb env with
    | stuck => rw [eb] at q; exact q.elim
    | exc e => rw [eb] at q; exact fun cls d G' H' x2 => q cls d G' H' (x1.trans x2)
    | ok b =>
      rw [eb] at q
      simp only [Rz.ok_bind] at q
      intro y G2 H2 x2 vb
      have er2 := er.ext (x1.trans x2)
      have zh2 : Sub Z.H H2 := er2.zh
      refine h2 Z G2 H2 H x y a b _ x2.s zh2 (va.ext x2) (vb.start x1.h) ?_
      cases eg : g a b with
      | stuck => rw [eg] at q; exact q.elim
      | exc e => exact absurd eg (hg.no a b e)
      | ok ev =>
        rw [eg] at q
        simp only [Rz.ok_bind] at q
        intro z G3 H3 x3 vz
        cases ek : asB ev with
        | stuck => rw [ek] at q; exact q.elim
        | exc e => exact absurd ek asB_exc
        | ok k =>
          rw [ek] at q
          simp only [Rz.ok_bind] at q
          refine ⟨k, asB_ok ek vz, ?_⟩
          have xx := x1.trans (x2.trans x3)
          cases k with
          | false =>
            rw [if_neg Bool.false_ne_true] at q ⊢
            exact q _ G3 H3 xx (.bl false)
          | true =>
            rw [if_pos rfl] at q ⊢
            refine ⟨Z, G3, env, er.ext xx, ?_⟩
            cases ec : mc env with
            | stuck => rw [ec] at q; exact q.elim
            | exc e => rw [ec] at q; exact fun cls d G' H' x4 => q cls d G' H' (xx.trans x4)
            | ok c =>
              rw [ec] at q
              simp only [Rz.ok_bind] at q
              intro u G4 H4 x4 vc
              refine h2' Z G4 H4 H y u b c Q x4.s (zh2.trans (x3.h.trans x4.h)) ((vb.ext (x3.trans x4)).start x1.h) (vc.start xx.h) ?_
              cases eg' : g' b c with
              | stuck => rw [eg'] at q; exact q.elim
              | exc e => exact absurd eg' (hg'.no b c e)
              | ok ev' =>
                rw [eg'] at q
                exact fun v G' H' x5 ve => q v G' H' (xx.trans (x4.trans x5)) (ve.start (xx.trans x4).h)
theorem de_chain {op op' : CmpOp} {g g' : EV → EV → Rz EV} {a b c : Expr} {ma mb mc : Env → Rz EV} {pos : Pos} (ho : OpD X C (compareOp op) g) (hg : NoExc g) (ho' : OpD X C (compareOp op') g') (hg' : NoExc g') (ha : DE X C W a ma) (hb : DE X C W b mb) (hc : DE X C W c mc)
    (hpe : ∀ (r r' : R2) (ta tb tc : TE), OpR X (compareOp op) r → OpR X (compareOp op') r' → PE X a ta → PE X b tb → PE X c tc → PE X (.Compare a [op, op'] [b, c] pos) (tChain r r' ta tb tc)) :
    DE X C W (.Compare a [op, op'] [b, c] pos) (mChn ma mb mc g g') := by
  obtain ⟨r, h1, h2⟩ := ho
  obtain ⟨r', h1', h2'⟩ := ho'
  exact ⟨PE.imp (hpe r r' _ _ _ h1 h1' ha.pe hb.pe hc.pe) fun σ H Q h => chn_go h2 h2' hg hg' h⟩
theorem de_gS {x y : Str} {pos : Pos} (hm : ∃ t, X.mg x = some (.str y t)) (hg : Gl X x := by rfl) (hd : (x == ("__debug__" : Str)) = false := by decide) : DE X C W (.Name x pos) (mC (.str y)) := by
  obtain ⟨t, h⟩ := hm
  exact de_globS h hg hd
end
theorem room1 {k : Nat} {A : Around} (r : Room k A) : A.units + 1 < cLine := by have := r.un; omega
theorem room5 {k : Nat} {A : Around} (r : Room k A) : A.units + 65 < cLine := by have := r.un; omega
section
variable {P : Program} {w : World} {mg : Str → Option Value} {base : Heap}
def FnG (P : Program) (w : World) (K : KC) (mg : Str → Option Value) (base : Heap) (k : Nat) (x : Str) (ps : List Str) (F : Fn) : Prop :=
  ∃ fd, FnOk P w K.K mg base (L2.CX P w) k (He.ga K.K x) fd ps (spD K ps.length F) ∧ Binds K.K fd ps [] ∧ PySem.W.keepIn K.K (.ref (He.ga K.K x)) = true ∧ mg x = some (.ref (He.ga K.K x))
theorem fn_dataD {K : KC} {x qual : Str} {params : Arguments} {body : List Stmt} {scope : Scope} {dvs : List V} {kws : List (Str × V)} {f : Addr} {fd : FuncData} {N ps : List Str} {k : Nat} {b : Env → Out} (F : FunD K.K x qual params body scope dvs kws f fd) (S : FnScope N ps scope) (hn : ps.length ≤ N.length)
    (hbody : ∀ (cdv : Value) (A : Around) (outer : List PySem.Env) (s : Shared) (H : Hp) (E : XK), Room k (A.deeper (envOfC qual scope s.heap.objs.size f cdv)) →
      PassesOwn (model P w) (A.deeper (envOfC qual scope s.heap.objs.size f cdv)) (envOfC qual scope s.heap.objs.size f cdv) (cxOf (L2.CX P w) P w K.K mg base N qual scope f cdv A outer s H E).xe →
      Takes (cxOf (L2.CX P w) P w K.K mg base N qual scope f cdv A outer s H E) (fun cls d _ H => E cls d H) → DSs (cxOf (L2.CX P w) P w K.K mg base N qual scope f cdv A outer s H E) K.C (fun cls d _ H => E cls d H) body b) : FnOk P w K.K mg base (L2.CX P w) (k + 1) f fd ps (spD K ps.length (runB N.length b)) := by
  refine F.ok S (fun vs H Q E ⟨G, ds, _, r, l, _⟩ => r.length.trans l) fun cdv A outer s H vs Q E hr ⟨G, ds, hs, r, l, h⟩ => ?_
  refine ⟨_, (hbody cdv A outer s H E hr (passes_of rfl) (takes_of rfl rfl rfl rfl)).pss, ⟨G, H⟩, G, _, er_start hs r N (by rw [l]; exact hn), ?_⟩
  unfold runB at h
  show Post K _ _ _ _ _
  cases hb : b (ds.map SL.val ++ List.replicate (N.length - ds.length) SL.no) with
  | nx e =>
    rw [hb] at h
    exact fun σ H' G' s' er => h .non G' H' er.toExt .non
  | ret ev =>
    rw [hb] at h
    refine fun σ env v H' G' Hs s' er hz va => h v G' H' er.toExt ?_
    exact va.start hz
  | exc e env =>
    rw [hb] at h
    exact fun σ H' G' cls d s' er k => h cls d G' H' er.toExt k
  | bk e => rw [hb] at h; exact h.elim
  | ct e => rw [hb] at h; exact h.elim
  | rtE v e => rw [hb] at h; exact h.elim
  | stuck => rw [hb] at h; exact h.elim
theorem fn_global {K : KC} {x : Str} {params : Arguments} {body : List Stmt} {scope : Scope} {N ps : List Str} {k : Nat} {b : Env → Out} (F : ∃ fd, FunD K.K x x params body scope [] [] (He.ga K.K x) fd) (hm : mg x = some (.ref (He.ga K.K x))) (S : FnScope N ps scope) (hn : ps.length ≤ N.length)
    (hbind : ∀ (kV doc pm : Value) (an : Option Addr) (cdv ct : Value) (us : List Value), us.length = ps.length → bindArgs (PySem.W.fnOf x x params body scope .none kV doc pm an cdv ct) ⟨us, []⟩ = pure (ps.zip us))
    (hbody : ∀ (cdv : Value) (A : Around) (outer : List PySem.Env) (s : Shared) (H : Hp) (E : XK), Room k (A.deeper (envOfC x scope s.heap.objs.size (He.ga K.K x) cdv)) →
      PassesOwn (model P w) (A.deeper (envOfC x scope s.heap.objs.size (He.ga K.K x) cdv)) (envOfC x scope s.heap.objs.size (He.ga K.K x) cdv) (cxOf (L2.CX P w) P w K.K mg base N x scope (He.ga K.K x) cdv A outer s H E).xe →
      Takes (cxOf (L2.CX P w) P w K.K mg base N x scope (He.ga K.K x) cdv A outer s H E) (fun cls d _ H => E cls d H) → DSs (cxOf (L2.CX P w) P w K.K mg base N x scope (He.ga K.K x) cdv A outer s H E) K.C (fun cls d _ H => E cls d H) body b) :
    FnG P w K mg base (k + 1) x ps (runB N.length b) := by
  obtain ⟨fd, F⟩ := F
  exact ⟨fd, fn_dataD F S hn hbody, F.bindsN hbind, F.kp, hm⟩
end
section
variable {X : Cx} {C : CT} {W : WX}
theorem de_call {F : Fn} {k n : Nat} {ps : List Str} {x : Str} {p pos : Pos} {e : Expr} {es : List Expr} {m : Env → Rz (List EV)} (FO : FnG X.prog X.w (kc X C) X.mg X.base k x ps F) (hr : Room k X.A)
    (tk : Takes X W) (ha : DA X C W (e :: es) m) (hg : Gl X x := by rfl) (hdb : (x == ("__debug__" : Str)) = false := by decide) (he : starEach (e :: es) X.env = (false, eval e X.env) :: starEach es X.env := by rfl) (hpl : (backTo pos (starEach es X.env)).any (·.1) = false := by rfl) (hn : n = ps.length := by rfl) :
    DE X C W (.Call (.Name x p) (e :: es) [] pos) (mFn F m n) := by
  obtain ⟨fd, h1, h2, h3, h4⟩ := FO
  subst hn
  exact de_fn h1 hr h4 h3 h2 tk ha hg hdb he hpl
end
theorem law_end {l : PySem.W.OpenLaw} {k : Nat} {q : Program} {loose : List Str} {XP : (Str → Option Value) → Heap → Prop} {YP : World → Heap → Prop} {d : DefRec} {x : Str} {F : Fn} {C : PySem.W.Frag → CT}
    (hn : l.most = some 63) (hdf : d.params.defaults = []) (hr : Room k callerA)
    (hF : ∀ ns : List Int, ns.length ≤ 63 → F [.scr ns] = .ok (.fz (.bl true)))
    (H : ∀ (w : World) (mg : Str → Option Value) (fa : Addr) (h : Heap), YP w h → h.Ns mainGlobals mg → mg d.name = some (.ref fa) →
      ∃ (K : PySem.W.Frag) (fd : FuncData), K.In h ∧ (∀ (s : Shared) (u : Value), BindsTo s fd ⟨[u], []⟩ [(x, u)]) ∧
        ∀ base : Heap, K.In base → base.Ns mainGlobals mg → FnOk l.prog w K mg base (L2.CX l.prog w) k fa fd [x] (spD ⟨K, C K⟩ 1 F)) :
    PySem.W.WalkO q loose XP YP l.row.toRowW d [] (fun f vs => PySem.call f vs) := by
  refine Att.attach_call hn hdf fun w s₀ s₁ mg mb fa o pm cd doc a vs ns G Y ho hd hcd hmg hobj hints hlen hg => ?_
  obtain ⟨K, fd, KX, hb, hFn⟩ := H w mg fa _ Y G.T.g hmg
  refine law_call KX G.T.g G.T.b G.T.builtins G.T.nolimit hg hobj hints (Nat.le_trans hlen (by decide)) hr hFn hb (fun H hO hS => ?_) fun H e s' z => ?_
  · refine ⟨H, [.scr ns], .refl, .cons (.scr hS) .nil, rfl, ?_⟩
    rw [hF ns hlen]
    exact fun v G' H' x k => rep_bl k
  · obtain ⟨_, _, _, _, _, _, _, _, _, _, _, _, z⟩ := z
    exact z
end DL
namespace DL
open PySem L2
theorem for_inv {α : Type} {p : D → Env → Rz Env} {b : Env → Out} (en : α → D) (I : Nat → Env → Prop) : ∀ (xs : List α) (k : Nat) (e0 : Env),
    (∀ (i : Nat) (x : α) (e : Env), xs[i]? = some x → I (k + i) e → ∃ e1 e2, p (en x) e = .ok e1 ∧ (b e1 = .nx e2 ∨ b e1 = .ct e2) ∧ I (k + i + 1) e2) → I k e0 →
    ∃ e', forF p b (xs.map en) e0 = .nx e' ∧ I (k + xs.length) e'
  | [], k, e0, _, h0 => ⟨e0, rfl, h0⟩
  | x :: xs, k, e0, h, h0 => by
    obtain ⟨e1, e2, h1, h2, h3⟩ := h 0 x e0 rfl h0
    obtain ⟨e', h4, h5⟩ := for_inv en I xs (k + 1) e2 (fun i y e hi he => by
      have e5 : k + 1 + i = k + (i + 1) := by omega
      rw [e5] at he
      obtain ⟨f1, f2, g1, g2, g3⟩ := h (i + 1) y e hi he
      refine ⟨f1, f2, g1, g2, ?_⟩
      have e6 : k + 1 + i + 1 = k + (i + 1) + 1 := by omega
      rw [e6]; exact g3) h3
    refine ⟨e', ?_, ?_⟩
    · rw [List.map_cons, forF, h1]
      dsimp only
      rcases h2 with h2 | h2 <;> (rw [h2]; exact h4)
    · rw [List.length_cons]
      have e7 : k + (xs.length + 1) = k + 1 + xs.length := by omega
      rw [e7]; exact h5
theorem lc_map {p : D → Env → Rz Env} {t : Env → Rz Bool} {e : Env → Rz EV} {env : Env} {α : Type} {en : α → D} {f : α → D} {k : α → Bool} {pe : α → Env} :
    ∀ (xs : List α) (acc : List D), (∀ x ∈ xs, p (en x) env = .ok (pe x) ∧ t (pe x) = .ok (k x) ∧ (k x = true → ∃ ev, e (pe x) = .ok ev ∧ ev.fr = .fz (f x))) → acc.length + xs.length ≤ sizeLine →
      lcF p t e env (xs.map en) acc = .ok (acc ++ (xs.filter k).map f)
  | [], acc, _, _ => by simp [lcF]
  | x :: xs, acc, h, hl => by
    obtain ⟨h1, h2, h3⟩ := h x List.mem_cons_self
    have hl' : acc.length + (xs.length + 1) ≤ sizeLine := hl
    rw [List.map_cons, lcF, h1]
    dsimp only
    rw [h2]
    cases hk : k x with
    | false =>
      dsimp only
      rw [lc_map xs acc (fun y hy => h y (List.mem_cons_of_mem _ hy)) (by omega), List.filter_cons_of_neg (by simp [hk])]
    | true =>
      obtain ⟨ev, h4, h5⟩ := h3 hk
      dsimp only
      rw [h4]
      dsimp only
      rw [h5]
      dsimp only
      rw [if_pos (by omega), lc_map xs _ (fun y hy => h y (List.mem_cons_of_mem _ hy)) (by simp; omega), List.filter_cons_of_pos hk, List.map_cons, List.append_assoc]
      rfl
theorem mLc_all {it : Env → Rz (List D)} {i : Nat} {e : Env → Rz EV} {env : Env} {α : Type} {en : α → D} {f : α → D} {xs : List α} (hi : it env = .ok (xs.map en))
    (he : ∀ x ∈ xs, ∃ ev, e ((env.set i .no).set i (.val (en x))) = .ok ev ∧ ev.fr = .fz (f x)) (hl : xs.length ≤ sizeLine) :
    mLc it (pName i) mYes e [i] env = .ok (.ow true (.lst (xs.map f))) := by
  unfold mLc
  rw [hi]
  simp only [Rz.ok_bind]
  rw [show wipeE env [i] = env.set i .no from rfl]
  rw [lc_map (pe := fun x => (env.set i .no).set i (.val (en x))) (k := fun _ => true) (f := f) xs [] (fun x hx => ⟨rfl, rfl, fun _ => he x hx⟩) (by simpa using hl)]
  rw [List.filter_eq_self.mpr (fun _ _ => rfl)]
  rfl
theorem mLc_if {it : Env → Rz (List D)} {i : Nat} {t : Env → Rz Bool} {e : Env → Rz EV} {env : Env} {α : Type} {en : α → D} {f : α → D} {k : α → Bool} {xs : List α} (hi : it env = .ok (xs.map en))
    (ht : ∀ x ∈ xs, t ((env.set i .no).set i (.val (en x))) = .ok (k x))
    (he : ∀ x ∈ xs, k x = true → ∃ ev, e ((env.set i .no).set i (.val (en x))) = .ok ev ∧ ev.fr = .fz (f x)) (hl : xs.length ≤ sizeLine) :
    mLc it (pName i) t e [i] env = .ok (.ow true (.lst ((xs.filter k).map f))) := by
  unfold mLc
  rw [hi]
  simp only [Rz.ok_bind]
  rw [show wipeE env [i] = env.set i .no from rfl]
  rw [lc_map (pe := fun x => (env.set i .no).set i (.val (en x))) (k := k) (f := f) xs [] (fun x hx => ⟨rfl, ht x hx, he x hx⟩) (by simpa using hl)]
  simp
theorem size_big {n : Nat} (h : n ≤ 16777216) : n ≤ sizeLine := by rw [sizeLine_eq]; exact h
theorem gAll_map (bs : List Bool) : gAll [.fz (.lst (bs.map .bl))] = .ok (.fz (.bl (bs.all id))) := by simp [allD]
theorem gLen_lst (ds : List D) : gLen [.fz (.lst ds)] = .ok (.fz (.int ds.length)) := rfl
theorem gLen_tup (ds : List D) : gLen [.fz (.tup ds)] = .ok (.fz (.int ds.length)) := rfl
theorem gLen_scr (ds : List Int) : gLen [.fz (.scr ds)] = .ok (.fz (.int ds.length)) := rfl
abbrev mk (l : List Nat) : Str := ⟨l.toArray⟩
theorem mk_len (l : List Nat) : (mk l).length = l.length := by simp [Str.length]
theorem mk_of (s : Str) : mk s.cps.toList = s := by cases s; simp [mk]
theorem gLen_mk (l : List Nat) (h : l.length ≤ 16777216) : gLen [.fz (.str (mk l))] = .ok (.fz (.int l.length)) := by
  have hz : l.length ≤ sizeLine := size_big h
  simp [lenD, hz, mk_len]
theorem in_sign (c : Nat) (l : List Nat) : opIn (.fz (.str ⟨#[c]⟩)) (.fz (.str (mk l))) = .ok (.fz (.bl (decide (c ∈ l)))) := by simp [opIn, inD]
theorem ix0_mk (c : Nat) (r : List Nat) (h : (c :: r).length ≤ 16777216) : opIx (.fz (.str (mk (c :: r)))) (.fz (.int 0)) = .ok (.fz (.str ⟨#[c]⟩)) := by
  have hz : (mk (c :: r)).length ≤ sizeLine := by rw [mk_len]; exact size_big h
  simp [opIx, ixD, hz, atI, ixN]
theorem ix_scr (ns : List Int) (i : Nat) (n : Int) (h : ns[i]? = some n) : opIx (.fz (.scr ns)) (.fz (.int i)) = .ok (.fz (.int n)) := by
  simp [opIx, ixD, atI_nat h]
theorem opEq_d {a b : EV} {k : Bool} (h : eqD a.d b.d = some k) : opEq a b = .ok (.fz (.bl k)) := by
  unfold opEq; rw [h]; rfl
theorem opNe_d {a b : EV} {k : Bool} (h : eqD a.d b.d = some k) : opNe a b = .ok (.fz (.bl (!k))) := by
  unfold opNe; rw [h]; rfl
theorem opEq_int (i j : Int) : opEq (.fz (.int i)) (.fz (.int j)) = .ok (.fz (.bl (decide (i = j)))) := rfl
theorem opNe_str (i j : Str) : opNe (.fz (.str i)) (.fz (.str j)) = .ok (.fz (.bl (!decide (i = j)))) := rfl
end DL
namespace DX
open PySem PySem.Spec PySem.W PyProof.Rows L2
section
open PySem.Calls
variable {prog : Program} {w : World} {A : Around} {E : Value → Shared → Prop} {h : Heap} {g : Array GenState} {d : Drawn} {t : Nat} {os : OsState}
variable {nm q : Str} {C N : Addr} {bs bm : List Value} {hdct : Bool} {sn : List Str} {sub : List Value} {ab : Bool} {col : Option Bool} {dd : Option Addr} {k0 k1 k2 k3 k5 : Option Value}
theorem call_mw {u e t0 : Addr} {rest : List Value} {Q : Value → Shared → Prop}
    (hC : h.get? C = some (excClassObj nm q C N bs bm hdct sn sub ab col dd k0 k1 k2 k3 k5 "ValueError.__new__")) (he : h.get? e = some (HandSPX.excO C t0)) (hu : h.get? u = some (kxs_mw "ValueError.__init__" e)) (hrest : rest.length ≤ sizeLine)
    (hq : ∀ h' t1, (∀ b o, b ≠ e → h.get? b = some o → h'.get? b = some o) → h'.get? e = some (HandSPX.excO C t1) → Q .none ⟨h', g, d, t, os⟩) :
    wpAny (model prog w) A (call (.ref u) rest) Q E ⟨h, g, d, t, os⟩ := by
  refine wpAny_call (codeAny_of_tree ?_)
  show wpAny _ A.in1 (callAny (.ref u) ⟨rest, []⟩) _ _ _
  simp only [callAny]
  refine wpAny_bind (wpAny_load hu ?_)
  simp only [kxs_mw, show (Value.type "method-wrapper" == Value.type "method" || Value.type "method-wrapper" == Value.type "builtin_function_or_method" || Value.type "method-wrapper" == Value.type "method-wrapper") = true by decide, if_true]
  refine KFB.if_so (by decide) ?_
  refine wpAny_bind (ESX.check_bound F.excBase_ValueError hC he rfl ?_)
  refine wpAny_bind (wpAny_pure (wpAny_pure ?_))
  refine ⟨Code.quiet_builtin _ (by decide +kernel), codeAny_builtin F.excBase_ValueError.initEntry ?_⟩
  rw [Around.under_plainId F.excBase_ValueError.init.plain _]
  wp_walk
  refine hq _ h.objs.size (fun b o hb ho => ?_) ?_
  · rw [Heap.get?_update_other _ _ (Ne.symm hb)]
    exact Heap.get?_push_of_some _ ho
  · rw [Heap.get?_update_self _ (Heap.get?_push_of_some _ he) rfl]
    rfl
end
def cxS (CX : CXT) (P : Program) (w : World) (K : PySem.W.Frag) (mg : Str → Option Value) (base : Heap) (N : List Str) (qual : Str) (scope : Scope) (f : Addr) (cd : Value) (cc : Addr) (A : Around) (outer : List Env) (s : Shared) (H : Hp) (E : XK) : Cx where
  prog := P
  w := w
  K := K
  mg := mg
  base := base
  A := A.deeper (ksEnv qual scope s.heap.objs.size f cd cc)
  N := N
  s_0 := s
  H_0 := H
  env := ksEnv qual scope s.heap.objs.size f cd cc
  outer := outer
  stack := ksEnv qual scope s.heap.objs.size f cd cc :: outer
  ex := []
  calm := true
  fn := fun x => x != "__class__"
  pn := []
  xe := fun e s' => wpAny (model P w) (A.deeper (ksEnv qual scope s.heap.objs.size f cd cc)) (leaving (ksEnv qual scope s.heap.objs.size f cd cc) e) (fun _ s'' => CX outer H s E e s'') (fun e' s'' => CX outer H s E e' s'') s'
structure SScope (ps : List Str) (sc : Scope) : Prop where
  kind : sc.kind = .function
  co : sc.isCoroutine = false
  gen : sc.isGenerator = false
  nd : ps.Nodup
  loc : ∀ x ∈ ps, sc.names.lookup x = some .local
  nocell : ∀ x ∈ sc.names, x.2 ≠ .cell
  free : ∀ x ∈ sc.names, x.2 = .free → x.1 = "__class__"
theorem lookup_rev {α : Type} : ∀ {ps : List Str} {us : List α} {i : Nat} {x : Str} {v : α}, ps.Nodup → ps[i]? = some x → us[i]? = some v → (ps.zip us).reverse.lookup x = some v
  | [], _, _, _, _, _, h, _ => by simp at h
  | _ :: _, [], _, _, _, _, _, h => by simp at h
  | p :: ps, u :: us, 0, x, v, nd, h1, h2 => by
    simp at h1 h2
    subst h1; subst h2
    rw [List.zip_cons_cons, List.reverse_cons, List.lookup_append]
    have e : (ps.zip us).reverse.lookup p = none := by
      cases q : (ps.zip us).reverse.lookup p with
      | none => rfl
      | some z =>
        have m := PySem.mem_of_lookup q
        exact absurd (List.of_mem_zip (List.mem_reverse.mp m)).1 (List.nodup_cons.mp nd).1
    rw [e]
    simp
  | p :: ps, u :: us, i + 1, x, v, nd, h1, h2 => by
    rw [List.zip_cons_cons, List.reverse_cons, List.lookup_append, lookup_rev (i := i) (List.nodup_cons.mp nd).2 (by simpa using h1) (by simpa using h2)]
    rfl
theorem inv_startS {CX : CXT} {P : Program} {w : World} {K : PySem.W.Frag} {mg : Str → Option Value} {base : Heap} {ps : List Str} {qual : Str} {scope : Scope} {f : Addr} {cd : Value} {cc : Addr} {A : Around} {outer : List Env} {s : Shared} {H : Hp} {E : XK} {us : List Value} {vs : List V} {h1 : Heap} {tk : Nat} {cl : Value} {cld : Option Addr} {cv : Option Value} {csl : Array (Option Value)}
    (S : SScope ps scope) (hd : A.handled = none) (e0 : Env0 P w K mg base A outer s H) (hl : vs.length = ps.length) (r : Vals vs us) (hcc : K.lookup cc = some ⟨cl, cld, .cell cv, csl⟩)
    (ns : h1.Ns s.heap.objs.size (fun x => (ps.zip us).reverse.lookup x)) (hk : ∀ b o, s.heap.get? b = some o → h1.get? b = some o) :
    Inv (cxS CX P w K mg base ps qual scope f cd cc A outer s H E) [] (vs.map some) H { s with heap := h1, toks := tk } := by
  have noA : ∀ b : Addr, b ∉ (cxS CX P w K mg base ps qual scope f cd cc A outer s H E).ex := fun b z => absurd (show b ∈ ([] : List Addr) from z) (by simp)
  have lc : ∀ {x : Str} {c : Addr}, ([("__class__", cc)] : List (Str × Addr)).lookup x = some c → x = "__class__" ∧ c = cc := fun {x c} z => by
    have m := PySem.mem_of_lookup z
    rw [List.mem_singleton] at m
    cases m
    exact ⟨rfl, rfl⟩
  refine ⟨⟨e0.mod, S.kind, rfl, rfl, Nat.le_refl _, fun y z c h1 h2 => ?_, fun y hy => ?_, fun y c hf h => ?_, fun _ => hd, Around.frames_deeper e0.frames, .inr ⟨rfl, rfl⟩, fun b z => absurd z (noA b), e0.bs, e0.bsz, fun b _ _ => noA b, fun b z => absurd z (noA b), e0.funs, e0.frf⟩,
    rfl, e0.bare, Un.kept hk, ⟨_, ns, fun i y v h1 h2 h3 => ?_⟩, fun y c h => ?_, e0.hok.fresh (Nat.le_refl _), fun y c h => ?_, fun p hp => absurd (show p ∈ ([] : List (Addr × Obj)) from hp) (by simp), e0.hok.kept hk, ?_⟩
  · exact (lc h1).1.trans (lc h2).1.symm
  · have hy : scope.names.lookup y = some .cell ∨ scope.names.lookup y = some .free := hy
    rcases hy with hy | hy
    · exact absurd rfl (S.nocell _ (PySem.mem_of_lookup hy))
    · have e : y = "__class__" := S.free _ (PySem.mem_of_lookup hy) rfl
      subst e
      exact ⟨cc, by show ([(("__class__" : Str), cc)] : List (Str × Addr)).lookup ("__class__" : Str) = some cc; simp⟩
  · have e := (lc h).1
    subst e
    exact absurd (show (("__class__" : Str) != ("__class__" : Str)) = true from hf) (by simp)
  · obtain ⟨u, hu, rv⟩ := r.get (i := i) (x := v) (by
      rw [List.getElem?_map] at h2
      cases e : vs[i]? with
      | none => rw [e] at h2; cases h2
      | some a => rw [e] at h2; cases h2; rfl)
    exact ⟨u, rv, .inl ⟨S.loc y (List.mem_of_getElem? h1), lookup_rev S.nd h1 hu⟩⟩
  · have e := (lc h).2
    subst e
    exact ⟨cv, _, hk _ _ ((e0.bs _ _ (e0.mod.kin _ _ hcc)).1), rfl⟩
  · have e := (lc h).2
    subst e
    exact (e0.bs _ _ (e0.mod.kin _ _ hcc)).2
  · rw [List.length_map]; exact hl
structure SupC (K : PySem.W.Frag) (C D : Addr) : Prop where
  oex : OexC K C
  sup : ks_superIn K C D "__init__" = some (some (.builtin "ValueError.__init__"))
  ve : subIn K (.ref C) (.type "ValueError") = some true
  mro : mroIn K C (.ref D) = some true
theorem super_stmt {X : Cx} {pins : List (Addr × Obj)} {σ : L2.St} {H : Hp} {s : Shared} {body : List Stmt} {f cc cda a C D : Addr} {oc ccl cl : Value} {od cdd cld : Option Addr} {osl ccs csl : Array (Option Value)} {fd : FuncData} {ar : Arg} {vs : Array Value} {file : Str} {tf : Tok} {cdD : ClassData}
    {e : Expr} {v : V} {p0 p1 ap pos ps : Pos} {Q : Flow → Shared → Prop} (I : Inv X pins σ H s) (gs : Gl X "super") (ms : X.mg "super" = none) (hkc : X.env.kindOf "__class__" = some .free) (hfu : X.env.func = some f) (hco : X.env.code = .ref cda)
    (hcell : X.env.cells.lookup ("__class__" : Str) = some cc) (lf : X.K.lookup f = some ⟨oc, od, .func fd, osl⟩) (hp : (fd.params.posonlyargs ++ fd.params.args).head? = some ar) (la : X.K.lookup cda = some ⟨ccl, cdd, .fields vs, ccs⟩) (hvs : vs[2]? = some (.str file tf)) (hfile : ((X.prog.main.file : Str) == file) = true)
    (htop : (X.prog.main.scope.names.lookup ("super" : Str)).isSome = false) (lcc : X.K.lookup cc = some ⟨cl, cld, .cell (some (.ref D)), csl⟩) (hD : clsIn X.K D = some cdD) (T : SupC X.K C D) (ho : nsIn X.K cStatics "thirdparty.any" = some none)
    (hN : X.N[0]? = some ar.arg) (hv : X.env.kindOf ar.arg = some .local) (hσ : σ[0]? = some (some (.ref a))) (ha : H a = some (exo a C none)) (he : PE X e (tC v))
    (h : ∀ s', Inv X pins σ H s' → Q .next s')
    (hi : interactive X.env = false := by rfl) (hsw : swapsWith (.Call (.Attribute (.Call (.Name "super" p0) [] [] p1) "__init__" ap) [e] [] pos) none ps.line X.env = pure false := by rfl)
    (hst : starEach [e] X.env = [(false, eval e X.env)] := by rfl) {pl : Sem Bool}
    (hcall : eval (.Call (.Attribute (.Call (.Name "super" p0) [] [] p1) "__init__" ap) [e] [] pos) X.env = (do
      let ov ← attributeBase (.Call (.Name "super" p0) [] [] p1) "__init__" X.env (eval (.Call (.Name "super" p0) [] [] p1) X.env)
      standAt ap.atName
      let (f, first) ← holding [ov] (getMethod ov "__init__" pl)
      callWith pos f first (backTo pos (starEach [e] X.env)) []) := by rfl) :
    _root_.PySem.wpAt (model X.prog X.w) X.A (.func body X.env) (exec (.Expr (.Call (.Attribute (.Call (.Name "super" p0) [] [] p1) "__init__" ap) [e] [] pos) ps) X.env) Q X.xe s := by
  obtain ⟨nm, q, N, bs, bm, sn, sub, ab, col, dd, k0, k1, k2, k3, k5, hC, hbm⟩ := T.oex.cls
  refine ks_wpAt_Expr_any (ks_wpAt_MethodCall (pl := pl) ?_ hcall) hi hsw
  · obtain ⟨mb, b1, b2⟩ := I.mod.blt
    obtain ⟨m, hn, hl⟩ := I.loc
    obtain ⟨u, ru, l⟩ := hl 0 ar.arg (.ref a) hN hσ (.inl hv)
    obtain rfl : u = Value.ref a := ru
    have hm : m ar.arg = some (.ref a) := by
      rcases l with ⟨_, z⟩ | ⟨z, _⟩
      · exact z
      · rw [hv] at z; rcases z with z | z <;> cases z
    obtain ⟨oD, hD1, hD2⟩ : ∃ oD, s.heap.get? D = some oD ∧ oD.data = .cls cdD := by
      unfold clsIn at hD
      split at hD
      · rename_i c d cd' sl ho'
        cases hD
        exact ⟨_, I.kIn _ _ ho', rfl⟩
      · cases hD
    obtain ⟨t1, hx⟩ := exo_at I.hok ha
    have IA : InstAt s.heap a { cls := .ref C, dict := none, data := .fields #[.ref t1, .none, .none, .none, .bool false, .none] } C none := ⟨hx, rfl, rfl, trivial⟩
    obtain ⟨cdC, hcl⟩ : ∃ cdC, clsIn X.K C = some cdC := by
      have z := T.sup
      unfold ks_superIn at z
      cases q : clsIn X.K C with
      | none => rw [q] at z; cases z
      | some c => exact ⟨c, rfl⟩
    have hxC : a ≠ C := ks_ne I.kIn IA hcl
    refine ks_wpAt_super_base gs hkc (by decide) hfu (I.kIn _ _ lf) rfl hp hco (I.kIn _ _ la) rfl hvs hfile htop ?_
    refine ks_loadName_global I.ok.kind gs (Calls.loadGlobal_builtin (by rw [I.ok.glob]; exact I.mod.glob.keeps I.bk) ms (by rw [I.ok.blt]; exact b1.keeps I.bk) ((b2 _ (by decide +kernel)).trans (by first | rfl | kernel_rfl)) ⟨rfl, ?_⟩)
    refine wpAny_loadName_free I.ok.kind hkc hcell ⟨_, I.kIn _ _ lcc, rfl⟩ ?_
    refine wpAny_loadName_local I.ok.kind hv hn hm ?_
    refine ks_wpAny_isType_cls hD1 hD2 ⟨rfl, ?_⟩
    obtain ⟨hh, g, d, t, os⟩ := s
    refine ks_wpAny_call_super hD1 hD2 hx rfl (fun c => by simp) (looks_mroIn I.kIn T.mro) (fun h2 e2 k2 => ?_)
    have I2 : Inv X ((hh.objs.size, ks_superObj D a C) :: pins) σ H { (⟨hh, g, d, t, os⟩ : Shared) with heap := h2, toks := t } := ClX.pin_new I k2 (Nat.le_refl _) e2 (fun v => by simp)
    refine kxs_getMethod kxs_ValueError e2 (looks_opaque I2.kIn ho) (l₀ := cdC.mro) (fun A Q E s k q => wpAny_bind ((looks_clsIn I2.kIn hcl) A _ E s k (wpAny_pure q))) rfl I2.kIn ?_ ?_ hxC (by decide) ?_
    · have z := T.sup
      unfold ks_superIn at z
      rw [hcl] at z
      exact z
    · have IA2 : InstAt h2 a { cls := .ref C, dict := none, data := .fields #[.ref t1, .none, .none, .none, .bool false, .none] } C none := ⟨k2 _ _ hx, rfl, rfl, trivial⟩
      exact IA2.type.andThen (looks_subIn I2.kIn T.ve)
    · have I3 : Inv X ((h2.objs.size, kxs_mw "ValueError.__init__" a) :: (hh.objs.size, ks_superObj D a C) :: pins) σ H { (⟨h2, g, d, t, os⟩ : Shared) with heap := h2.push (kxs_mw "ValueError.__init__" a), toks := t + 1 } :=
        ClX.pin_new I2 (fun b o z => Heap.get?_push_of_some _ z) (Nat.le_refl _) (Heap.get?_push_size _ rfl) (fun v => by simp)
      have hst' : starEach [e] X.env = (false, eval e X.env) :: starEach [] X.env := by rw [hst]; rfl
      dsimp only
      rw [hst']
      refine kxs_callWith (i := "ValueError.__init__") (x := a) rfl (Calls.evalArgs_plain ?_)
      show wpAny _ _ (spliced (backTo pos ((false, eval e X.env) :: starEach [] X.env))) _ _ _
      rw [← hst']
      refine thn ((pa_cons he pa_nil hst').run pos _ _ σ H (fun vs H1 => vs = [v] ∧ H1 = H) I3 ⟨rfl, rfl⟩) fun us s4 ⟨vs4, H4, I4, r4, ev, eH⟩ => ?_
      subst ev
      subst eH
      refine ⟨(I4.pin _ (List.mem_append_right _ List.mem_cons_self)).1, ?_⟩
      obtain ⟨t4, ho4⟩ := exo_at I4.hok ha
      have hu4 := (I4.pin _ (List.mem_append_right _ List.mem_cons_self)).1
      have hlen : us.length ≤ sizeLine := by
        rw [← Paired.length r4, sizeLine_eq]
        exact (show 1 ≤ 16777216 by decide)
      obtain ⟨hp4, g4, d4, tk4, os4⟩ := s4
      refine call_mw (I4.kIn _ _ hC) ho4 hu4 hlen fun h' t5 k hx' => ?_
      have J := I4.write (t' := tk4) (x := a) (e := a) (o := exo a C none) (by rw [ha]; exact True.intro) (.inl rfl) k ⟨_, hx'⟩ (exo_ok hx')
      have eu : upd H4 a (exo a C none) = H4 := by
        funext b
        by_cases hb : b = a
        · rw [hb, upd_same, ha]
        · rw [upd_ne hb]
      rw [eu] at J
      exact h _ (ClX.unpin (ClX.unpin J))
structure FunS (P : Program) (K : PySem.W.Frag) (qual : Str) (params : Arguments) (body : List Stmt) (scope : Scope) (D f : Addr) (fd : FuncData) : Prop where
  ex : ∃ (oc : Value) (od : Option Addr) (kV doc pm : Value) (an : Option Addr) (cda : Addr) (ct : Value) (osl : Array (Option Value)) (cc : Addr) (cl : Value) (cld : Option Addr) (csl : Array (Option Value)) (ccl : Value) (cdd : Option Addr) (vs : Array Value) (ccs : Array (Option Value)) (file : Str) (tf : Tok),
    fd = ksFn "__init__" qual params body scope .none kV doc pm an (.ref cda) ct cc ∧ K.lookup f = some ⟨oc, od, .func fd, osl⟩ ∧ codeIn K (.ref cda) qual = true ∧ K.lookup cc = some ⟨cl, cld, .cell (some (.ref D)), csl⟩ ∧
    K.lookup cda = some ⟨ccl, cdd, .fields vs, ccs⟩ ∧ vs[2]? = some (.str file tf) ∧ ((P.main.file : Str) == file) = true
  kp : keepIn K (.ref f) = true
  cls : ∃ cd, clsIn K D = some cd
  st : nsIn K cStatics "thirdparty.any" = some none
theorem fn_super {P : Program} {w : World} {K : PySem.W.Frag} {mg : Str → Option Value} {base : Heap} {CX : CXT} {k : Nat} {qual : Str} {params : Arguments} {rest : List Stmt} {scope : Scope} {D f : Addr} {fd : FuncData} {p0 p1 ap pos pst : Pos} {e : Expr} {v : V} {ps : List Str} {ar : Arg} {t : TS}
    (F : FunS P K qual params (.Expr (.Call (.Attribute (.Call (.Name "super" p0) [] [] p1) "__init__" ap) [e] [] pos) pst :: rest) scope D f fd) (S : SScope ps scope) (hp : (params.posonlyargs ++ params.args).head? = some ar) (hN : ps[0]? = some ar.arg)
    (gs : scope.names.lookup ("super" : Str) = some .globalImplicit) (hkc : scope.names.lookup ("__class__" : Str) = some .free) (ms : mg "super" = none) (htop : (P.main.scope.names.lookup ("super" : Str)).isSome = false)
    (he : ∀ (cda cc : Addr) (A : Around) (outer : List Env) (s : Shared) (H : Hp) (E : XK), PE (cxS CX P w K mg base ps qual scope f (.ref cda) cc A outer s H E) e (tC v))
    (hrest : ∀ (cda cc : Addr) (A : Around) (outer : List Env) (s : Shared) (H : Hp) (E : XK), PSs (cxS CX P w K mg base ps qual scope f (.ref cda) cc A outer s H E) rest t) {pl : Sem Bool}
    (hrow : ∀ (cda cc L : Addr), interactive (ksEnv qual scope L f (.ref cda) cc) = false ∧ swapsWith (.Call (.Attribute (.Call (.Name "super" p0) [] [] p1) "__init__" ap) [e] [] pos) none pst.line (ksEnv qual scope L f (.ref cda) cc) = pure false ∧ starEach [e] (ksEnv qual scope L f (.ref cda) cc) = [(false, eval e (ksEnv qual scope L f (.ref cda) cc))] ∧
      eval (.Call (.Attribute (.Call (.Name "super" p0) [] [] p1) "__init__" ap) [e] [] pos) (ksEnv qual scope L f (.ref cda) cc) = (do
        let ov ← attributeBase (.Call (.Name "super" p0) [] [] p1) "__init__" (ksEnv qual scope L f (.ref cda) cc) (eval (.Call (.Name "super" p0) [] [] p1) (ksEnv qual scope L f (.ref cda) cc))
        standAt ap.atName
        let (f', first) ← holding [ov] (getMethod ov "__init__" pl)
        callWith pos f' first (backTo pos (starEach [e] (ksEnv qual scope L f (.ref cda) cc))) [])) :
    FnOk P w K mg base CX (k + 1) f fd ps (fun vs H Q _ => vs.length = ps.length ∧ ∃ (C a : Addr), vs[0]? = some (.ref a) ∧ SupC K C D ∧ H a = some (exo a C none) ∧ t { nx := fun _ H' => Q .non H', rt := Q } (vs.map some) H) := by
  refine ⟨fun vs H Q E z => z.1, fun A outer s H args us vs Q E hr e0 hb r ⟨hl, C, a, h0, T, ha, hq⟩ => ?_⟩
  obtain ⟨oc, od, kV, doc, pm, an, cda, ct, osl, cc, cl, cld, csl, ccl, cdd, cvs, ccs, file, tf, rfl, lf, hcd, lcc, la, hvs, hfile⟩ := F.ex
  obtain ⟨cdD, hD⟩ := F.cls
  have KX : K.In s.heap := e0.mod.kin.keeps fun b o e => (e0.bs b o e).1
  have lim : s.heap.NoLimit := e0.mod.nolimit.keeps fun b o e => (e0.bs b o e).1
  refine ks_codeAny_call_defAt hr.depth (KX _ _ lf) rfl lim (codeRec_of KX hcd) rfl hb S.nocell (fun y hy => S.loc y.1 (List.of_mem_zip hy).1) (fun h₀ ns hk => ?_) S.co S.gen S.kind
  have I : Inv (cxS CX P w K mg base ps qual scope f (.ref cda) cc A outer s H E) [] (vs.map some) H { s with heap := h₀, toks := s.toks + (ps.zip us).length } := inv_startS S hr.hd e0 hl r lcc ns hk
  have hv : scope.names.lookup ar.arg = some .local := S.loc _ (List.mem_of_getElem? hN)
  obtain ⟨r1, r2, r3, r4⟩ := hrow cda cc s.heap.objs.size
  refine ks_wpAt_execs_cons ?_
  refine super_stmt (X := cxS CX P w K mg base ps qual scope f (.ref cda) cc A outer s H E) I gs ms hkc rfl rfl (by show ([(("__class__" : Str), cc)] : List (Str × Addr)).lookup ("__class__" : Str) = some cc; simp) lf hp la hvs hfile htop lcc hD T F.st hN hv (by rw [List.getElem?_map, h0]; rfl) ha (he _ _ _ _ _ _ _) (fun s1 I1 => ?_) r1 r2 r3 r4
  refine wpAt_of_wpAny (wpAny_mono ((hrest cda cc A outer s H E).run [] s1 (vs.map some) H _ I1 hq) (fun fl s' hs => ?_) fun e s' hs => hs)
  have fin : ∀ {σ' : L2.St} {H' : Hp} {v : V} {u : Value}, Inv (cxS CX P w K mg base ps qual scope f (.ref cda) cc A outer s H E) [] σ' H' s' → RelV v u → Q v H' → CE outer P w H s Q u s' :=
    fun {σ' H' v u} J rv q => ⟨v, H', J.os, J.bare, J.base, J.hok, rv, q⟩
  cases fl with
  | ret u =>
    obtain ⟨v, σ', H', J, rv, q⟩ := hs
    exact fin J rv q
  | next =>
    obtain ⟨σ', H', J, q⟩ := hs
    exact fin (v := V.non) (u := Value.none) J rfl q
  | brk =>
    obtain ⟨_, _, _, q⟩ := hs
    exact False.elim q
  | cont =>
    obtain ⟨_, _, _, q⟩ := hs
    exact False.elim q
end DX
namespace DL
open PySem PySem.Spec PyProof.Rows L2
def spX (Ca : Addr) (fs : List Str) : Sp := fun vs H Q _ => ∃ (a : Addr) (ws : List V), vs = .ref a :: ws ∧ ws.length = fs.length ∧ H a = some (exo a Ca none) ∧
  ∀ dx, H dx = none → dx ≠ a → Q .non (upd (upd H dx (exd dx (fs.zip ws).reverse)) a (exo a Ca (some dx)))
def ExG (P : Program) (w : World) (K : KC) (mg : Str → Option Value) (base : Heap) (k : Nat) (x : Str) (fs : List Str) : Prop :=
  ∃ (Ca fI : Addr) (fd : FuncData) (ps : List Str), mg x = some (.ref Ca) ∧ K.C.cls x = some Ca ∧ OexC K.K Ca ∧ PySem.W.findIn K.K (.ref Ca) "__init__" = some (some (.ref fI)) ∧ PySem.W.typeIn K.K (.ref fI) = some (.type "function") ∧
    FnOk P w K.K mg base (L2.CX P w) k fI fd ps (spX Ca fs) ∧ Binds K.K fd ps []
def mRaise (x : Str) (fs : List Str) (m : Env → Rz (List EV)) : Env → Out := fun env => match m env with
  | .ok evs => (match allFz evs with
    | some ds => if ds.length = fs.length then .exc ⟨x, (fs.zip ds).reverse⟩ env else .stuck
    | none => .stuck)
  | .exc e => .exc e env
  | .stuck => .stuck
theorem RepF.append {K : KC} {G : Hp} : ∀ {vs us : List (Str × V)} {ds es : List (Str × D)}, RepF K G vs ds → RepF K G us es → RepF K G (vs ++ us) (ds ++ es)
  | _, _, _, _, .nil, s => s
  | _, _, _, _, .cons a b, s => .cons a (b.append s)
theorem RepF.zipR {K : KC} {G : Hp} : ∀ {fs : List Str} {vs : List V} {ds : List D}, Reps K G vs ds → RepF K G (fs.zip vs).reverse (fs.zip ds).reverse
  | [], _, _, _ => .nil
  | _ :: _, _, _, .nil => .nil
  | f :: fs, _, _, .cons a b => by
    rw [List.zip_cons_cons, List.zip_cons_cons, List.reverse_cons, List.reverse_cons]
    exact (RepF.zipR b).append (.cons a .nil)
section
variable {X : Cx} {C : CT} {W : WX}
theorem ds_raise {k : Nat} {x : Str} {fs : List Str} {p pos pos2 : Pos} {e : Expr} {es : List Expr} {m : Env → Rz (List EV)} (EG : ExG X.prog X.w (kc X C) X.mg X.base k x fs) (hr : Room (k + 1) X.A) (tk : Takes X W) (ha : DA X C W (e :: es) m)
    (hc : X.calm = true := by rfl) (hfs : fs.length ≤ 1000 := by decide) (hg : Gl X x := by rfl) (hdb : (x == ("__debug__" : Str)) = false := by decide) (he : starEach (e :: es) X.env = (false, eval e X.env) :: starEach es X.env := by rfl) (hpl : (backTo pos (starEach es X.env)).any (·.1) = false := by rfl) :
    DS X C W (.Raise (some (.Call (.Name x p) (e :: es) [] pos)) none pos2) (mRaise x fs m) := by
  obtain ⟨Ca, fI, fd, ps, hm, hC, T, iC, tI, FO, hb⟩ := EG
  refine ⟨PS.imp (ps_raise hc tk (pmk_oex (CX := L2.CX X.prog X.w) T iC tI FO hr hb .nil (passes_call tk fun _ _ _ _ z => z.elim) hg hm ha.pa hdb he hpl)) fun D σ H ⟨Z, G, env, er, q⟩ => ?_⟩
  unfold mRaise at q
  refine ⟨Z, G, env, er, ?_⟩
  cases hq : m env with
  | stuck => rw [hq] at q; exact q.elim
  | exc e =>
    rw [hq] at q
    exact fun cls d G' H' xx k => q σ H' G' cls d xx.g (er.ext xx) k
  | ok evs =>
    rw [hq] at q
    dsimp only at q
    intro vs G1 H1 x1 va
    cases hz : allFz evs with
    | none => rw [hz] at q; exact q.elim
    | some ds =>
      rw [hz] at q
      dsimp only at q
      by_cases hl : ds.length = fs.length
      · rw [if_pos hl] at q
        have rr := allFz_ok hz va
        have lv : vs.length = fs.length := rr.length.trans hl
        refine ⟨by omega, fun a ha => ⟨a, vs, by rw [List.append_nil], lv, upd_same, fun dx hdx hne => ⟨rfl, dx, (fs.zip vs).reverse, upd_same, ?_, ?_, ?_⟩⟩⟩
        · rw [upd_ne hne, upd_same]
        · rw [upd_ne hne] at hdx; exact hdx
        · have hd1 : H1 dx = none := by rw [upd_ne hne] at hdx; exact hdx
          have eH : upd (del (upd (upd (upd H1 a (exo a Ca none)) dx (exd dx (fs.zip vs).reverse)) a (exo a Ca (some dx))) a) dx (.xd (fs.zip vs).reverse) = upd H1 dx (.xd (fs.zip vs).reverse) := by
            funext b
            by_cases hb1 : b = dx
            · rw [hb1, upd_same, upd_same]
            · rw [upd_ne hb1, upd_ne hb1]
              by_cases hb2 : b = a
              · rw [hb2, del_same, ha]
              · rw [del_ne hb2, upd_ne hb2, upd_ne hb1, upd_ne hb2]
          rw [eH]
          have xe := x1.trans (Ext.lay2 (o := .xd (fs.zip vs).reverse) x1.s hd1)
          refine q σ _ _ (.ref Ca) (some dx) xe.g (er.ext xe) ⟨Ca, hC, rfl, .inr ⟨dx, _, rfl, upd_same, ?_⟩⟩
          exact (RepF.zipR rr).mono (.upd (x1.s.none hd1))
      · rw [if_neg hl] at q; exact q.elim
end
section
variable {K K' : KC}
mutual
theorem Rep.cx (h1 : K.K = K'.K) (h2 : K.C.cls = K'.C.cls) {G : Hp} : ∀ {v : V} {d : D}, Rep K G v d → Rep K' G v d
  | _, _, .non => .non
  | _, _, .bl b => .bl b
  | _, _, .int i => .int i
  | _, _, .str x => .str x
  | _, _, .ty n => .ty n
  | _, _, .cls e => .cls (h2 ▸ e)
  | _, _, .tup s r => .tup s (Reps.cx h1 h2 r)
  | _, _, .lst s r => .lst s (Reps.cx h1 h2 r)
  | _, _, .scr s => .scr (h1 ▸ s)
  | _, _, .dk s r => .dk s (RepK.cx h1 h2 r)
  | _, _, .dt s r => .dt s (RepT.cx h1 h2 r)
  | _, _, .ins c s r => .ins (h2 ▸ c) s (RepF.cx h1 h2 r)
theorem Reps.cx (h1 : K.K = K'.K) (h2 : K.C.cls = K'.C.cls) {G : Hp} : ∀ {v : List V} {d : List D}, Reps K G v d → Reps K' G v d
  | _, _, .nil => .nil
  | _, _, .cons a b => .cons (Rep.cx h1 h2 a) (Reps.cx h1 h2 b)
theorem RepF.cx (h1 : K.K = K'.K) (h2 : K.C.cls = K'.C.cls) {G : Hp} : ∀ {v : List (Str × V)} {d : List (Str × D)}, RepF K G v d → RepF K' G v d
  | _, _, .nil => .nil
  | _, _, .cons a b => .cons (Rep.cx h1 h2 a) (RepF.cx h1 h2 b)
theorem RepK.cx (h1 : K.K = K'.K) (h2 : K.C.cls = K'.C.cls) {G : Hp} : ∀ {v : List (Key × V)} {d : List (D × D)}, RepK K G v d → RepK K' G v d
  | _, _, .nil => .nil
  | _, _, .cons a b => .cons (Rep.cx h1 h2 a) (RepK.cx h1 h2 b)
theorem RepT.cx (h1 : K.K = K'.K) (h2 : K.C.cls = K'.C.cls) {G : Hp} : ∀ {v : List (List Key × V)} {d : List (D × D)}, RepT K G v d → RepT K' G v d
  | _, _, .nil => .nil
  | _, _, .cons a b => .cons (Rep.cx h1 h2 a) (RepT.cx h1 h2 b)
end
theorem WOk.cx (h1 : K.K = K'.K) (h2 : K.C.cls = K'.C.cls) (h3 : ∀ p, K.C.slf = Option.some p → K'.C.slf = Option.some p) {G H : Hp} {p : Addr} {w : OW} (x : WOk K G H p w) : WOk K' G H p w := by
  cases w with
  | lst ds => obtain ⟨vs, e, r⟩ := x; exact ⟨vs, e, r.cx h1 h2⟩
  | dct t ds =>
    cases t with
    | false => obtain ⟨vs, e, r⟩ := x; exact ⟨vs, e, r.cx h1 h2⟩
    | true => obtain ⟨vs, e, r⟩ := x; exact ⟨vs, e, r.cx h1 h2⟩
  | ins c ds => obtain ⟨Ca, dx, vs, q, e, r⟩ := x; exact ⟨Ca, dx, vs, h2 ▸ q, e, r.cx h1 h2⟩
  | self c ds => obtain ⟨z, Ca, dx, vs, q, e, r⟩ := x; exact ⟨h3 _ z, Ca, dx, vs, h2 ▸ q, e, r.cx h1 h2⟩
  | wlk ds => obtain ⟨z, vs, e, r⟩ := x; exact ⟨h3 _ z, vs, e, r.cx h1 h2⟩
theorem EVok.cx (h1 : K.K = K'.K) (h2 : K.C.cls = K'.C.cls) (h3 : ∀ p, K.C.slf = some p → K'.C.slf = some p) {Z : Ent} {Hs G H : Hp} {v : V} {ev : EV} (x : EVok K Z Hs G H v ev) : EVok K' Z Hs G H v ev := by
  cases ev with
  | fz d => exact Rep.cx h1 h2 x
  | ow n w => obtain ⟨p, e, a, b⟩ := x; exact ⟨p, e, a.cx h1 h2 h3, b⟩
mutual
theorem TRep.cx (h1 : K.K = K'.K) (h2 : K.C.cls = K'.C.cls) {G H : Hp} : ∀ {v : V} {t : T} {F : List Addr}, TRep K G H v t F → TRep K' G H v t F
  | _, _, _, .leaf r => .leaf (r.cx h1 h2)
  | _, _, _, .tup a b => .tup a (TReps.cx h1 h2 b)
  | _, _, _, .lst a b => .lst a (TReps.cx h1 h2 b)
  | _, _, _, .dk a b => .dk a (TRepK.cx h1 h2 b)
  | _, _, _, .dt a b => .dt a (TRepT.cx h1 h2 b)
  | _, _, _, .ins q a b => .ins (h2 ▸ q) a (TRepF.cx h1 h2 b)
theorem TReps.cx (h1 : K.K = K'.K) (h2 : K.C.cls = K'.C.cls) {G H : Hp} : ∀ {v : List V} {t : List T} {F : List Addr}, TReps K G H v t F → TReps K' G H v t F
  | _, _, _, .nil => .nil
  | _, _, _, .cons a b => .cons (TRep.cx h1 h2 a) (TReps.cx h1 h2 b)
theorem TRepF.cx (h1 : K.K = K'.K) (h2 : K.C.cls = K'.C.cls) {G H : Hp} : ∀ {v : List (Str × V)} {t : List (Str × T)} {F : List Addr}, TRepF K G H v t F → TRepF K' G H v t F
  | _, _, _, .nil => .nil
  | _, _, _, .cons a b => .cons (TRep.cx h1 h2 a) (TRepF.cx h1 h2 b)
theorem TRepK.cx (h1 : K.K = K'.K) (h2 : K.C.cls = K'.C.cls) {G H : Hp} : ∀ {v : List (Key × V)} {t : List (D × T)} {F : List Addr}, TRepK K G H v t F → TRepK K' G H v t F
  | _, _, _, .nil => .nil
  | _, _, _, .cons a b => .cons (TRep.cx h1 h2 a) (TRepK.cx h1 h2 b)
theorem TRepT.cx (h1 : K.K = K'.K) (h2 : K.C.cls = K'.C.cls) {G H : Hp} : ∀ {v : List (List Key × V)} {t : List (D × T)} {F : List Addr}, TRepT K G H v t F → TRepT K' G H v t F
  | _, _, _, .nil => .nil
  | _, _, _, .cons a b => .cons (TRep.cx h1 h2 a) (TRepT.cx h1 h2 b)
end
theorem ExcOk.cx (h1 : K.K = K'.K) (h2 : K.C.cls = K'.C.cls) {G H : Hp} {cls : Value} {d : Option Addr} {e : Exn} (x : ExcOk K G H cls d e) : ExcOk K' G H cls d e := by
  obtain ⟨a, q1, q2, q3⟩ := x
  refine ⟨a, h2 ▸ q1, q2, ?_⟩
  rcases q3 with q3 | ⟨dd, fs, q4, q5, q6⟩
  · exact .inl q3
  · exact .inr ⟨dd, fs, q4, q5, q6.cx h1 h2⟩
theorem ER.cx (h1 : K.K = K'.K) (h2 : K.C.cls = K'.C.cls) (h3 : ∀ p, K.C.slf = some p → K'.C.slf = some p) (hn : K.C.ex = none) {Z : Ent} {G H : Hp} {σ : L2.St} {env : Env} (er : ER K Z G H σ env) (h4 : K.C.so = K'.C.so := by rfl) : ER K' Z G H σ env :=
  ⟨er.len, er.zg, er.zh, er.zzz, er.sub, er.new, (fun i x e => by
    obtain ⟨v, q1, q2⟩ := er.at' i x e
    refine ⟨v, q1, ?_⟩
    cases x with
    | no => trivial
    | val d => obtain ⟨u, q3, q4⟩ := q2; exact ⟨u, q3, q4.cx h1 h2⟩
    | own w => obtain ⟨u, q3, q4⟩ := q2; exact ⟨u, q3, q4.cx h1 h2 h3⟩
    | exn e => obtain ⟨a, Ca, d, q3, _⟩ := q2; rw [hn] at q3; cases q3
    | tre s t => obtain ⟨u, F, q3, q4, q5, q6⟩ := q2; exact ⟨u, F, q3, fun z => let ⟨p, e1, e2⟩ := q4 z; ⟨p, e1, h3 p e2⟩, q5.cx h1 h2, q6⟩
    | sts ks => obtain ⟨f, p, L, q3, q4⟩ := q2; exact ⟨f, p, L, h4 ▸ q3, q4⟩), er.own, er.dis⟩
def unX : SL → SL
  | .exn _ => .no
  | .sts _ => .no
  | x => x
theorem unX_own {H : Hp} {x : SL} {v : Option V} {p : Addr} (h : (unX x).owns H v p) : x.owns H v p := by
  cases x with
  | exn e => exact h.elim
  | sts ks => exact h.elim
  | _ => exact h
theorem getMap {env : Env} {i : Nat} {x : SL} (e : (env.map unX)[i]? = some x) : ∃ y, env[i]? = some y ∧ x = unX y := by
  rw [List.getElem?_map] at e
  cases q : env[i]? with
  | none => rw [q] at e; cases e
  | some y => rw [q] at e; cases e; exact ⟨y, rfl, rfl⟩
theorem ER.unX (h1 : K.K = K'.K) (h2 : K.C.cls = K'.C.cls) (h3 : ∀ p, K.C.slf = some p → K'.C.slf = some p) {Z : Ent} {G H : Hp} {σ : L2.St} {env : Env} (er : ER K Z G H σ env) : ER K' Z G H σ (env.map DL.unX) :=
  ⟨by rw [List.length_map]; exact er.len, er.zg, er.zh, er.zzz, er.sub, er.new, fun i x e => by
    obtain ⟨y, e', rfl⟩ := getMap e
    obtain ⟨v, q1, q2⟩ := er.at' i y e'
    refine ⟨v, q1, ?_⟩
    cases y with
    | no => trivial
    | val d => obtain ⟨u, q3, q4⟩ := q2; exact ⟨u, q3, q4.cx h1 h2⟩
    | own w => obtain ⟨u, q3, q4⟩ := q2; exact ⟨u, q3, q4.cx h1 h2 h3⟩
    | exn e => trivial
    | tre s t => obtain ⟨u, F, q3, q4, q5, q6⟩ := q2; exact ⟨u, F, q3, fun z => let ⟨p, e1, e2⟩ := q4 z; ⟨p, e1, h3 p e2⟩, q5.cx h1 h2, q6⟩
    | sts ks => trivial, fun i x v p e1 e2 o => by
    obtain ⟨y, e', rfl⟩ := getMap e1
    exact er.own i y v p e' e2 (unX_own o), fun i j x y v u p e1 e2 o1 e3 e4 o2 => by
    obtain ⟨x', e1', rfl⟩ := getMap e1
    obtain ⟨y', e3', rfl⟩ := getMap e3
    exact er.dis i j x' y' v u p e1' e2 (unX_own o1) e3' e4 (unX_own o2)⟩
theorem ER.setX {Z : Ent} {G H : Hp} {σ : L2.St} {env : Env} (er : ER K Z G H σ env) {i : Nat} {v : V} {e : Exn} (ok : SlotOk K G H (some v) (.exn e)) : ER K Z G H (σ.set i (some v)) (env.set i (.exn e)) :=
  er.setS ok fun a o => o.elim
end
def fin (i : Nat) : Out → Out
  | .nx env => .nx ((env.map unX).set i .no)
  | .bk env => .bk ((env.map unX).set i .no)
  | .ct env => .ct ((env.map unX).set i .no)
  | .ret ev => .ret ev
  | .rtE ev env => .rtE ev ((env.map unX).set i .no)
  | _ => .stuck
abbrev W0x : WX := fun _ _ _ _ => False
end DL
namespace DL
open PySem PySem.Spec PyProof.Rows L2
end DL
namespace DL
open PySem PySem.Spec PyProof.Rows L2
def spS (K : PySem.W.Frag) (D : Addr) (fs : List Str) : Sp := fun vs H Q E => ∃ C, DX.SupC K C D ∧ (∀ f ∈ fs, PySem.W.findIn K (.ref C) f = some none) ∧ spX C fs vs H Q E
abbrev spT (K : PySem.W.Frag) (D : Addr) (n : Nat) (t : TS) : Sp := fun vs H Q _ => vs.length = n ∧ ∃ (C a : Addr), vs[0]? = some (.ref a) ∧ DX.SupC K C D ∧ H a = some (exo a C none) ∧ t { nx := fun _ H' => Q .non H', rt := Q } (vs.map some) H
theorem spT_one {K : PySem.W.Frag} {D : Addr} {f : Str} (vs : List V) (H : Hp) (Q : VK) (E : XK) (h : spS K D [f] vs H Q E) : spT K D 2 (tOst K f (tVar 0) (tVar 1)) vs H Q E := by
  obtain ⟨C, S, hf, a, ws, rfl, hl, ha, q⟩ := h
  match ws, hl with
  | [y], _ => exact ⟨rfl, C, a, rfl, S, ha, y, rfl, _, rfl, a, C, rfl, S.oex, hf f (by simp), .inl ⟨ha, q⟩⟩
theorem exG_of {P : Program} {w : World} {K : KC} {mg : Str → Option Value} {base : Heap} {k : Nat} {x : Str} {Ca D fI : Addr} {fd : FuncData} {fs ps : List Str} (hm : mg x = some (.ref Ca)) (hC : K.C.cls x = some Ca) (S : DX.SupC K.K Ca D) (hi : PySem.W.findIn K.K (.ref Ca) "__init__" = some (some (.ref fI)))
    (ht : PySem.W.typeIn K.K (.ref fI) = some (.type "function")) (hf : ∀ f ∈ fs, PySem.W.findIn K.K (.ref Ca) f = some none) (FO : FnOk P w K.K mg base (L2.CX P w) k fI fd ps (spS K.K D fs)) (hb : Binds K.K fd ps []) : ExG P w K mg base k x fs :=
  ⟨Ca, fI, fd, ps, hm, hC, S.oex, hi, ht, FO.imp fun vs H Q E z => ⟨Ca, S, hf, z⟩, hb⟩
theorem FunS.bindsN {P : Program} {K : PySem.W.Frag} {qual : Str} {params : Arguments} {body : List Stmt} {scope : Scope} {D f : Addr} {fd : FuncData} {ps : List Str} (F : DX.FunS P K qual params body scope D f fd)
    (h : ∀ (kV doc pm : Value) (an : Option Addr) (cda : Addr) (ct : Value) (cc : Addr) (us : List Value), us.length = ps.length → bindArgs (PySem.W.ksFn "__init__" qual params body scope .none kV doc pm an (.ref cda) ct cc) ⟨us, []⟩ = pure (ps.zip us)) : Binds K fd ps [] := by
  obtain ⟨oc, od, kV, doc, pm, an, cda, ct, osl, cc, cl, cld, csl, ccl, cdd, vs, ccs, file, tf, rfl, _⟩ := F.ex
  exact .all (h kV doc pm an cda ct cc)
def oexB (K : PySem.W.Frag) (C : Addr) : Bool := (match K.lookup C with
  | some ⟨.type "type", _, .cls cd, sl⟩ => (match cd.mro, sl.toList with
    | .ref C' :: bm, [_, _, _, _, some (.builtin n), _] => decide (C' = C) && (decide (n = "ValueError.__new__") && (!cd.hasDel && (cd.hasDict && PySem.HandSPX.refsVE bm)))
    | _, _ => false)
  | _ => false) && (He.eqO (PySem.W.findIn K (.ref C) "__setattr__") (some (some (.builtin "object.__setattr__"))) && (decide (PySem.W.subIn K (.ref C) (.type "BaseException") = some true) && (decide (PySem.W.typeIn K (.ref C) = some (.type "type")) && PySem.W.keepIn K (.ref C))))
theorem oexB_ok {K : PySem.W.Frag} {C : Addr} (h : oexB K C = true) : OexC K C := by
  obtain ⟨h1, h⟩ := He.ba h
  obtain ⟨h2, h⟩ := He.ba h
  obtain ⟨h3, h⟩ := He.ba h
  obtain ⟨h4, h5⟩ := He.ba h
  refine ⟨?_, He.eqO_ok h2, of_decide_eq_true h3, of_decide_eq_true h4, h5⟩
  cases q : K.lookup C with
  | none => rw [q] at h1; cases h1
  | some o =>
    rw [q] at h1
    obtain ⟨oc, od, dt, ⟨sl⟩⟩ := o
    split at h1
    · rename_i dd cd sl' hz
      cases hz
      split at h1
      · rename_i C' bm k0 k1 k2 k3 n k5 hm hs
        obtain ⟨a1, h1⟩ := He.ba h1
        obtain ⟨a2, h1⟩ := He.ba h1
        obtain ⟨a3, h1⟩ := He.ba h1
        obtain ⟨a4, a5⟩ := He.ba h1
        have b1 : C' = C := of_decide_eq_true a1
        have b2 : n = "ValueError.__new__" := of_decide_eq_true a2
        have b3 : cd.hasDel = false := by simpa using a3
        subst b1 b2
        obtain ⟨nm, bs, mro, ns, qn, hd, sn, sb, ab, col, del⟩ := cd
        dsimp only at hm b3 a4
        dsimp only at hs
        subst hm b3 a4 hs
        exact ⟨nm, qn, ns, bs, bm, sn, sb, ab, col, od, k0, k1, k2, k3, k5, rfl, a5⟩
      · cases h1
    · cases h1
end DL
namespace DL
open PySem PySem.Spec PyProof.Rows L2
def supB (K : PySem.W.Frag) (C D : Addr) : Bool := oexB K C && (decide (PySem.W.ks_superIn K C D "__init__" = some (some (.builtin "ValueError.__init__"))) && (decide (PySem.W.subIn K (.ref C) (.type "ValueError") = some true) && decide (PySem.W.mroIn K C (.ref D) = some true)))
theorem supB_ok {K : PySem.W.Frag} {C D : Addr} (h : supB K C D = true) : DX.SupC K C D := by
  obtain ⟨h1, h⟩ := He.ba h
  obtain ⟨h2, h⟩ := He.ba h
  obtain ⟨h3, h4⟩ := He.ba h
  exact ⟨oexB_ok h1, of_decide_eq_true h2, of_decide_eq_true h3, of_decide_eq_true h4⟩
def initB (K : PySem.W.Frag) (C D : Addr) : Bool := He.eqO (PySem.W.findIn K (.ref C) "__init__") (some (some (.ref (He.ma K D "__init__")))) && decide (PySem.W.typeIn K (.ref (He.ma K D "__init__")) = some (.type "function"))
abbrev FnS : Type := Option (Str × Str × Arguments × FuncBody × Scope × Addr × List Str × Addr)
def fnS (K : PySem.W.Frag) (p : Str × Option Str) : FnS := match K.lookup (He.fAd K p) with
  | some ⟨_, _, .func fd, _⟩ => some (fd.name, fd.qualname, fd.params, fd.body, fd.scope, fd.globals, fd.closure.map (·.1), fd.builtins)
  | _ => none
structure DefS where
  x : Str
  qual : Str
  params : Arguments
  body : List Stmt
  scope : Scope
def DefS.val (d : DefS) : FnS := some ("__init__", d.qual, d.params, .stmts d.body, d.scope, mainGlobals, ["__class__"], builtinsNs)
def cellB (K : PySem.W.Frag) (D : Addr) : List (Str × Addr) → Bool
  | [(_, c)] => (match K.lookup c with
    | some ⟨_, _, .cell (some (.ref a)), _⟩ => decide (a = D)
    | _ => false)
  | _ => false
def fileB (K : PySem.W.Frag) (file : Str) : Value → Bool
  | .ref c => (match K.lookup c with
    | some ⟨_, _, .fields vs, _⟩ => (match (vs : Array Value)[2]? with
      | some (Value.str f _) => file == f
      | _ => false)
    | _ => false)
  | _ => false
def noneB : Value → Bool
  | .none => true
  | _ => false
def DefS.ok (file : Str) (K : PySem.W.Frag) (d : DefS) : Bool := PySem.W.keepIn K (.ref (He.ma K (He.ga K d.x) "__init__")) && ((PySem.W.clsIn K (He.ga K d.x)).isSome && (He.eqO (PySem.W.nsIn K cStatics "thirdparty.any") (some none) && (match K.lookup (He.ma K (He.ga K d.x) "__init__") with
  | some ⟨_, _, .func fd, _⟩ => PySem.W.codeIn K fd.code d.qual && (noneB fd.defaults && (cellB K (He.ga K d.x) fd.closure && fileB K file fd.code))
  | _ => false)))
theorem DefS.funS {P : Program} {K : PySem.W.Frag} {d : DefS} {file : Str} (e : fnS K (d.x, some "__init__") = d.val) (c : d.ok file K = true) (hf : P.main.file = file) : ∃ fd, DX.FunS P K d.qual d.params d.body d.scope (He.ga K d.x) (He.ma K (He.ga K d.x) "__init__") fd := by
  obtain ⟨kp, c⟩ := He.ba c
  obtain ⟨hc, c⟩ := He.ba c
  obtain ⟨hst, c⟩ := He.ba c
  unfold fnS He.fAd at e
  dsimp only at e
  cases q : K.lookup (He.ma K (He.ga K d.x) "__init__") with
  | none => rw [q] at c; cases c
  | some o =>
    obtain ⟨oc, od, dt, osl⟩ := o
    rw [q] at c e
    cases dt with
    | func fd =>
      obtain ⟨n1, n2, n3, n4, n5, n6, n7, n8, n9, n10, n11, n12, n13, n14, n15⟩ := fd
      have e2 : (some (n1, n2, n3, n4, n5, n6, n7.map (·.1), n15) : FnS) = d.val := e
      unfold DefS.val at e2
      simp only [Option.some.injEq, Prod.mk.injEq] at e2
      obtain ⟨h1, h2, h3, h4, h5, h6, h7, h8⟩ := e2
      subst h1 h2 h3 h4 h5 h6 h8
      have c2 : (PySem.W.codeIn K n13 d.qual && (noneB n8 && (cellB K (He.ga K d.x) n7 && fileB K file n13))) = true := c
      obtain ⟨k1, c2⟩ := He.ba c2
      obtain ⟨k2, c2⟩ := He.ba c2
      obtain ⟨k3, k4⟩ := He.ba c2
      match n7, h7, k3 with
      | [(nm, cc)], h7, k3 =>
        have h9 : nm = "__class__" := by simpa using h7
        subst h9
        cases n8 with
        | none =>
          cases n13 with
          | ref cda =>
            unfold cellB at k3
            dsimp only at k3
            unfold fileB at k4
            dsimp only at k4
            split at k3
            · rename_i cl cld a csl hcc
              have ha : a = He.ga K d.x := of_decide_eq_true k3
              subst ha
              split at k4
              · rename_i ccl cdd vs ccs hcd
                split at k4
                · rename_i f tf hv
                  exact ⟨_, ⟨oc, od, n9, n10, n11, n12, cda, n14, osl, cc, cl, cld, csl, ccl, cdd, vs, ccs, f, tf, rfl, q, k1, hcc, hcd, hv, by rw [hf]; exact k4⟩, kp, Option.isSome_iff_exists.mp hc, He.eqO_ok hst⟩
                · cases k4
              · cases k4
            · cases k3
          | _ => cases k4
        | _ => cases k2
    | _ => cases c
def rcA (K : PySem.W.Frag) (C : Addr) (m : Str) (T : String) (j : Nat) : Addr := match PySem.W.recIn K (He.ma K C m) T with
  | some l => (match l[j]? with
    | some (.ref g) => g
    | _ => 0)
  | none => 0
structure DefC where
  T : String
  j : Nat
  d : He.DefD
def DefC.ad (K : PySem.W.Frag) (c : DefC) : Addr := match c.d.at_.2 with
  | some m => rcA K (He.ga K c.d.at_.1) m c.T c.j
  | none => 0
def fnA (K : PySem.W.Frag) (a : Addr) : He.FnW := match K.lookup a with
  | some ⟨_, _, .func fd, _⟩ => some (fd.name, fd.qualname, fd.params, fd.body, fd.scope, fd.globals, fd.closure, fd.builtins)
  | _ => none
def okA (K : PySem.W.Frag) (a : Addr) (d : He.DefD) : Bool := PySem.W.keepIn K (.ref a) && (match K.lookup a with
  | some ⟨_, _, .func fd, _⟩ => PySem.W.codeIn K fd.code d.qual && (He.dflB K fd.defaults (d.dvs K) && He.kwdB K fd.kwdefaults (d.kws K))
  | _ => false)
theorem funD_at {K : PySem.W.Frag} {a : Addr} {d : He.DefD} (e : fnA K a = d.val) (c : okA K a d = true) : ∃ fd, FunD K d.name d.qual d.params d.body d.scope (d.dvs K) (d.kws K) a fd := by
  obtain ⟨kp, c⟩ := He.ba c
  unfold fnA at e
  split at c
  · rename_i oc od fd osl lk
    rw [lk] at e
    obtain ⟨m1, m2, m3, m4, m5, m6, m7, m8, m9, m10, m11, m12, m13, m14, m15⟩ := fd
    have e : (some (m1, m2, m3, m4, m5, m6, m7, m15) : He.FnW) = d.val := e
    unfold He.DefD.val at e
    simp only [Option.some.injEq, Prod.mk.injEq] at e
    obtain ⟨h1, h2, h3, h4, h5, h6, h7, h8⟩ := e
    subst h1 h2 h3 h4 h5 h6 h7 h8
    obtain ⟨k1, c⟩ := He.ba (show (PySem.W.codeIn K m13 d.qual && (He.dflB K m8 (d.dvs K) && He.kwdB K m9 (d.kws K))) = true from c)
    obtain ⟨k3, k4⟩ := He.ba c
    exact ⟨_, ⟨oc, od, m8, m9, m10, m11, m12, m13, m14, osl, rfl, lk, k1, He.dflB_ok k3, He.kwdB_ok k4⟩, kp⟩
  · cases c
abbrev AlE : Type := Bool × List He.FnW × List FnS × List He.FnW
structure Ask where
  file : Str
  fa : List He.Fa
  fb : List (PySem.W.Frag → Bool)
  fn : List He.DefD
  fs : List DefS
  fc : List DefC := []
def obsE (q : Ask) (K : PySem.W.Frag) : AlE := ((q.fa.all fun f => f.ok K) && ((q.fb.all fun f => f K) && ((q.fn.all fun d => d.ok K) && ((q.fs.all fun d => d.ok q.file K) && q.fc.all fun d => okA K (d.ad K) d.d))), q.fn.map fun d => He.fnW K d.at_, q.fs.map fun d => fnS K (d.x, some "__init__"), q.fc.map fun d => fnA K (d.ad K))
def valE (q : Ask) : AlE := (true, q.fn.map He.DefD.val, q.fs.map DefS.val, q.fc.map fun d => d.d.val)
def SaysE (q : Ask) (K : PySem.W.Frag) : Prop := obsE q K = valE q
section
variable {q : Ask} {K : PySem.W.Frag}
theorem SaysE.all (c : SaysE q K) : (q.fa.all fun f => f.ok K) = true ∧ (q.fb.all fun f => f K) = true ∧ (q.fn.all fun d => d.ok K) = true ∧ (q.fs.all fun d => d.ok q.file K) = true ∧ (q.fc.all fun d => okA K (d.ad K) d.d) = true := by
  have c1 : ((q.fa.all fun f => f.ok K) && ((q.fb.all fun f => f K) && ((q.fn.all fun d => d.ok K) && ((q.fs.all fun d => d.ok q.file K) && q.fc.all fun d => okA K (d.ad K) d.d)))) = true := congrArg (fun z : AlE => z.1) c
  obtain ⟨h1, c1⟩ := He.ba c1
  obtain ⟨h2, c1⟩ := He.ba c1
  obtain ⟨h3, c1⟩ := He.ba c1
  obtain ⟨h4, h5⟩ := He.ba c1
  exact ⟨h1, h2, h3, h4, h5⟩
theorem SaysE.fact (c : SaysE q K) (i : Nat) {f : He.Fa} (h : q.fa[i]? = some f := by rfl) : f.ok K = true := List.all_eq_true.mp c.all.1 f (List.mem_of_getElem? h)
theorem SaysE.fb (c : SaysE q K) (i : Nat) {f : PySem.W.Frag → Bool} (h : q.fb[i]? = some f := by rfl) : f K = true := List.all_eq_true.mp c.all.2.1 f (List.mem_of_getElem? h)
theorem SaysE.def_ (c : SaysE q K) (i : Nat) {d : He.DefD} (h : q.fn[i]? = some d := by rfl) : ∃ fd, FunD K d.name d.qual d.params d.body d.scope (d.dvs K) (d.kws K) (He.fAd K d.at_) fd := by
  have e : q.fn.map (fun d => He.fnW K d.at_) = q.fn.map He.DefD.val := congrArg (fun z : AlE => z.2.1) c
  have e2 : (q.fn.map fun d => He.fnW K d.at_)[i]? = (q.fn.map He.DefD.val)[i]? := by rw [e]
  rw [List.getElem?_map, List.getElem?_map, h] at e2
  exact He.DefD.funD (Option.some.inj e2) (List.all_eq_true.mp c.all.2.2.1 d (List.mem_of_getElem? h))
theorem SaysE.ini (c : SaysE q K) (i : Nat) {d : DefS} {P : Program} (hf : P.main.file = q.file) (h : q.fs[i]? = some d := by rfl) : ∃ fd, DX.FunS P K d.qual d.params d.body d.scope (He.ga K d.x) (He.ma K (He.ga K d.x) "__init__") fd := by
  have e : q.fs.map (fun d => fnS K (d.x, some "__init__")) = q.fs.map DefS.val := congrArg (fun z : AlE => z.2.2.1) c
  have e2 : (q.fs.map fun d => fnS K (d.x, some "__init__"))[i]? = (q.fs.map DefS.val)[i]? := by rw [e]
  rw [List.getElem?_map, List.getElem?_map, h] at e2
  exact DefS.funS (Option.some.inj e2) (List.all_eq_true.mp c.all.2.2.2.1 d (List.mem_of_getElem? h)) hf
theorem SaysE.rec (c : SaysE q K) (i : Nat) {d : DefC} (h : q.fc[i]? = some d := by rfl) : ∃ fd, FunD K d.d.name d.d.qual d.d.params d.d.body d.d.scope (d.d.dvs K) (d.d.kws K) (d.ad K) fd := by
  have e : q.fc.map (fun d => fnA K (d.ad K)) = q.fc.map fun d => d.d.val := congrArg (fun z : AlE => z.2.2.2) c
  have e2 : (q.fc.map fun d => fnA K (d.ad K))[i]? = (q.fc.map fun d => d.d.val)[i]? := by rw [e]
  rw [List.getElem?_map, List.getElem?_map, h] at e2
  exact funD_at (Option.some.inj e2) (List.all_eq_true.mp c.all.2.2.2.2 d (List.mem_of_getElem? h))
end
end DL
namespace DL
open PySem PySem.Spec PyProof.Rows L2
def fldD (cs : List Str) (f : Str) : D → Option D
  | .ins c fs => if c ∈ cs then fs.lookup f else none
  | _ => none
theorem fldD_ins (cs : List Str) (f c : Str) (fs : List (Str × D)) : fldD cs f (.ins c fs) = if c ∈ cs then fs.lookup f else none := rfl
def mFld (cs : List Str) (f : Str) (m : Env → Rz EV) : Env → Rz EV := fun env => m env >>= fun a => orStuck (fldD cs f a.d) >>= fun d => .ok (.fz d)
def putD (f : Str) (v : D) : List (Str × D) → List (Str × D)
  | [] => [(f, v)]
  | (g, x) :: r => if g = f then (g, v) :: r else (g, x) :: putD f v r
theorem RepF.put {K : KC} {G : Hp} {f : Str} {v : V} {d : D} (h : Rep K G v d) : ∀ {vs : List (Str × V)} {ds : List (Str × D)}, RepF K G vs ds → RepF K G (putF f v vs) (putD f d ds)
  | _, _, .nil => .cons h .nil
  | (g, x) :: vs, (_, y) :: ds, .cons a b => by
    unfold putF putD
    by_cases e : g = f
    · rw [if_pos e, if_pos e]; exact .cons h b
    · rw [if_neg e, if_neg e]; exact .cons a (b.put h)
theorem RepF.length {K : KC} {G : Hp} : ∀ {vs : List (Str × V)} {ds : List (Str × D)}, RepF K G vs ds → vs.length = ds.length
  | _, _, .nil => rfl
  | _, _, .cons _ b => congrArg Nat.succ b.length
def FldOk (K : PySem.W.Frag) (C : CT) (cs : List Str) (f : Str) : Prop := ∀ c ∈ cs, ∀ Ca, C.cls c = some Ca → Cls K Ca ∧ NoAttr K Ca f
section
variable {X : Cx} {C : CT} {W : WX}
theorem ins_of {K : KC} {Z : Ent} {Hs G H : Hp} {v : V} {a : EV} {c : Str} {fs : List (Str × D)} (s : Sub G H) (va : EVok K Z Hs G H v a) (h : a.d = .ins c fs) :
    ∃ p Ca dx vs, v = .ref p ∧ K.C.cls c = some Ca ∧ H p = some (.ins Ca dx vs) ∧ RepF K G vs fs := by
  cases a with
  | fz d =>
    have hd : d = .ins c fs := h
    subst hd
    cases va with
    | ins q e r => exact ⟨_, _, _, _, rfl, q, s _ _ e, r⟩
  | ow n w =>
    obtain ⟨p, rfl, wo, _⟩ := va
    cases w with
    | lst ds => cases h
    | dct t ds => cases h
    | ins c' fs' => cases h; obtain ⟨Ca, dx, vs, q, e, r⟩ := wo; exact ⟨p, Ca, dx, vs, rfl, q, e, r⟩
    | self c' fs' => cases h; obtain ⟨_, Ca, dx, vs, q, e, r⟩ := wo; exact ⟨p, Ca, dx, vs, rfl, q, e, r⟩
    | wlk ds => cases h
theorem de_fld {cs : List Str} {f : Str} {e : Expr} {m : Env → Rz EV} {pos : Pos} (hc : FldOk X.K C cs f) (he : DE X C W e m) (hb : attributeBase e f X.env (eval e X.env) = eval e X.env := by rfl) : DE X C W (.Attribute e f pos) (mFld cs f m) :=
  ⟨PE.imp (pe_fld he.pe hb) fun σ H Q ⟨Z, G, env, er, q⟩ => by
    unfold mFld at q
    refine ⟨Z, G, env, er, ?_⟩
    cases ha : m env with
    | stuck => rw [ha] at q; exact q.elim
    | exc e => rw [ha] at q; exact q
    | ok a =>
      rw [ha] at q
      simp only [Rz.ok_bind] at q
      intro v G1 H1 x1 va
      cases hd : a.d with
      | ins c fs =>
        rw [hd, fldD_ins] at q
        by_cases hcc : c ∈ cs
        · rw [if_pos hcc] at q
          cases hl : fs.lookup f with
          | none => rw [hl] at q; exact q.elim
          | some y =>
            rw [hl] at q
            simp only [orStuck_some, Rz.ok_bind] at q
            obtain ⟨p, Ca, dx, vs, e1, e2, e3, r⟩ := ins_of x1.s va hd
            obtain ⟨u, u1, u2⟩ := r.look hl
            obtain ⟨k1, k2⟩ := hc c hcc Ca e2
            exact ⟨p, Ca, dx, vs, u, e1, e3, k1, k2, u1, q u G1 H1 x1 u2⟩
        · rw [if_neg hcc] at q; exact q.elim
      | _ => rw [hd] at q; exact q.elim⟩
def mSetFld (i : Nat) (cs : List Str) (f : Str) (m : Env → Rz EV) : Env → Out := fun env => match m env with
  | .ok a => (match a.fr with
    | .fz d => (match env.getD i .no with
      | .own (.self c fs) => if c ∈ cs ∧ fs.length < 1000 then .nx (env.set i (.own (.self c (putD f d fs)))) else .stuck
      | _ => .stuck)
    | _ => .stuck)
  | .exc e => .exc e env
  | .stuck => .stuck
theorem ds_setFld (i : Nat) {cs : List Str} {x f : Str} {e : Expr} {m : Env → Rz EV} {xp p' pos : Pos} (hc : FldOk X.K C cs f) (he : DE X C W e m) (hs : swapsWith e (some (.Attribute (.Name x xp) f p')) pos.line X.env = pure false := by rfl)
    (hN : X.N[i]? = some x := by rfl) (hv : Vis X.env.scope x := by first | exact Or.inl rfl | exact Or.inr (Or.inl rfl) | exact Or.inr (Or.inr rfl)) (hd : (x == ("__debug__" : Str)) = false := by decide) (hcd : (x == ("__classdict__" : Str)) = false := by decide) :
    DS X C W (.Assign [.Attribute (.Name x xp) f p'] e pos) (mSetFld i cs f m) :=
  ⟨PS.imp (ps_fld (pe_var hN hv hd hcd) he.pe hs) fun D σ H ⟨Z, G, env, er, q⟩ => by
    unfold mSetFld at q
    refine ⟨Z, G, env, er, ?_⟩
    cases ha : m env with
    | stuck => rw [ha] at q; exact q.elim
    | exc e =>
      rw [ha] at q
      exact fun cls d G' H' x k => q σ H' G' cls d x.g (er.ext x) k
    | ok a =>
      rw [ha] at q
      intro y G1 H1 x1 va
      obtain ⟨G2, s2, er2, va2⟩ := frz_go (er.ext x1) va fun p hp => (er.free hp).ext er x1
      dsimp only at q
      cases hf : a.fr with
      | ow n w => rw [hf] at q; exact q.elim
      | fz d =>
        rw [hf] at q va2
        dsimp only at q
        split at q
        · rename_i c fs hi
          have hi := getD_some hi (by simp)
          split at q
          · rename_i hz
            obtain ⟨v, h1, p, rfl, sl, Ca, dx, vs, k1, h3, h4⟩ := er2.at' i _ hi
            obtain ⟨k2, k3⟩ := hc c hz.1 Ca k1
            refine ⟨.ref p, h1, p, Ca, dx, vs, rfl, h3, k2, k3, by rw [h4.length]; exact hz.2, q _ _ G2 (x1.g.trans s2) (er2.put hi h1 ⟨sl, Ca, dx, _, k1, upd_same, h4.put va2⟩)⟩
          · exact q.elim
        · exact q.elim⟩
end
theorem spD_cx {K K' : KC} (h1 : K.K = K'.K) (h2 : K.C.cls = K'.C.cls) (h3 : K.C.slf = none) {n : Nat} {F : Fn} {vs : List V} {H : Hp} {Q : VK} {E : XK} (h : spD K' n F vs H Q E) : spD K n F vs H Q E := by
  obtain ⟨G, ds, s, r, l, q⟩ := h
  refine ⟨G, ds, s, Reps.cx h1.symm h2.symm r, l, ?_⟩
  cases hF : F ds with
  | stuck => rw [hF] at q; exact q
  | exc e => rw [hF] at q; exact fun cls d G' H' x k => q cls d G' H' x (ExcOk.cx h1 h2 k)
  | ok ev => rw [hF] at q; exact fun v G' H' x k => q v G' H' x (EVok.cx h1 h2 (fun p z => by rw [h3] at z; cases z) k)
theorem FnG.cx {P : Program} {w : World} {K : PySem.W.Frag} {C C' : CT} {mg : Str → Option Value} {base : Heap} {k : Nat} {x : Str} {ps : List Str} {F : Fn} (h2 : C.cls = C'.cls) (h3 : C.slf = none) (h : FnG P w ⟨K, C⟩ mg base k x ps F) : FnG P w ⟨K, C'⟩ mg base k x ps F := by
  obtain ⟨fd, f1, f2, f3, f4⟩ := h
  exact ⟨fd, f1.imp fun vs H Q E z => spD_cx (K := ⟨K, C⟩) (K' := ⟨K, C'⟩) rfl h2 h3 z, f2, f3, f4⟩
end DL
namespace DL
open PySem PySem.Spec PyProof.Rows L2
theorem del_sub {H : Hp} {a : Addr} : Sub (del H a) H := fun b o e => by
  by_cases hb : b = a
  · rw [hb, del_same] at e; cases e
  · rw [del_ne hb] at e; exact e
theorem sub_del {G H : Hp} {a : Addr} (s : Sub G H) (g : G a = none) : Sub G (del H a) := fun b o e => by
  rw [del_ne (ne_of_none e g)]; exact s b o e
theorem er_startI {K : KC} {G H : Hp} {a : Addr} {w : OW} {ws : List V} {ds : List D} (s : Sub G H) (g : G a = none) (wo : WOk K G H a w) (r : Reps K G ws ds) (M : Nat) :
    ER K ⟨G, del H a⟩ G H (some (.ref a) :: (ws.map some ++ List.replicate M none)) (.own w :: (ds.map SL.val ++ List.replicate M SL.no)) := by
  have hl := r.length
  have noown : ∀ (i : Nat) (x : SL) (v : Option V) (p : Addr), (ds.map SL.val ++ List.replicate M SL.no)[i]? = some x → ¬ x.owns H v p := fun i x v p e o => by
    rcases List.mem_append.mp (List.mem_of_getElem? e) with m | m
    · obtain ⟨d, _, z⟩ := List.mem_map.mp m
      cases z; exact o
    · cases (List.mem_replicate.mp m).2; exact o
  refine ⟨by simp [hl], .refl, del_sub, sub_del s g, s, fun b n z => absurd z n, fun i x e => ?_, fun i x v p e e2 o => ?_, fun i j x y v u p e1 e2 o1 e3 e4 o2 => ?_⟩
  · cases i with
    | zero => cases e; exact ⟨_, rfl, a, rfl, wo⟩
    | succ i =>
      have e' : (ds.map SL.val ++ List.replicate M SL.no)[i]? = some x := e
      show ∃ v, (ws.map some ++ List.replicate M none)[i]? = some v ∧ _
      rw [List.getElem?_append] at e' ⊢
      rw [List.length_map] at e' ⊢
      rw [hl]
      by_cases hi : i < ds.length
      · rw [if_pos hi] at e' ⊢
        rw [List.getElem?_map] at e' ⊢
        cases q : ds[i]? with
        | none => rw [q] at e'; cases e'
        | some d =>
          rw [q] at e'; cases e'
          obtain ⟨u, h1, h2⟩ := r.get q
          exact ⟨some u, by rw [h1]; rfl, u, rfl, h2⟩
      · rw [if_neg hi] at e' ⊢
        rw [List.getElem?_replicate] at e' ⊢
        by_cases hm : i - ds.length < M
        · rw [if_pos hm] at e' ⊢
          cases e'
          exact ⟨none, rfl, trivial⟩
        · rw [if_neg hm] at e'; cases e'
  · cases i with
    | zero =>
      cases e; cases e2
      have o : some (V.ref a) = some (V.ref p) := o
      cases o
      exact ⟨g, del_same⟩
    | succ i => exact absurd o (noown i x v p e)
  · cases i with
    | zero => cases j with
      | zero => rfl
      | succ j => exact absurd o2 (noown j y u p e3)
    | succ i => exact absurd o1 (noown i x v p e1)
abbrev IFn := List D → Rz (List (Str × D))
def runI (N : Nat) (c : Str) (b : Env → Out) : IFn := fun ds => match b (.own (.self c []) :: (ds.map SL.val ++ List.replicate (N - (ds.length + 1)) SL.no)) with
  | .nx env => (match env.getD 0 .no with
    | .own (.self c' fs) => if c' = c then .ok fs else .stuck
    | _ => .stuck)
  | .exc e _ => .exc e
  | _ => .stuck
structure Mkd (G H : Hp) (a : Addr) (G' H' : Hp) : Prop where
  g : Sub G G'
  s : Sub G' H'
  h : Sub (del H a) H'
  n : ∀ b, G b = none → NT (del H a) b → G' b = none
def spI (K : KC) (c : Str) (n : Nat) (IF : IFn) : Sp := fun vs H Q E => ∃ (a Ca dx : Addr) (ws : List V) (G : Hp) (ds : List D), vs = .ref a :: ws ∧ K.C.cls c = some Ca ∧ H a = some (.ins Ca dx []) ∧ G a = none ∧ Sub G H ∧ Reps K G ws ds ∧ ds.length = n ∧
  match IF ds with
  | .ok fs => ∀ G' H' dx' vs', Mkd G H a G' H' → G' a = none → H' a = some (.ins Ca dx' vs') → RepF K G' vs' fs → Q .non H'
  | .exc e => ∀ cls d G' H', Mkd G H a G' H' → ExcOk K G' H' cls d e → E cls d H'
  | .stuck => False
theorem fn_init {P : Program} {w : World} {mg : Str → Option Value} {base : Heap} {K : PySem.W.Frag} {C : CT} {c x qual : Str} {params : Arguments} {body : List Stmt} {scope : Scope} {dvs : List V} {kws : List (Str × V)} {f : Addr} {fd : FuncData} {N ps : List Str} {k n : Nat} {b : Env → Out} (F : FunD K x qual params body scope dvs kws f fd) (S : FnScope N ps scope) (hn : ps.length = n + 1)
    (hbody : ∀ (a : Addr) (cdv : Value) (A : Around) (outer : List PySem.Env) (s : Shared) (H : Hp) (E : XK), Room k (A.deeper (envOfC qual scope s.heap.objs.size f cdv)) →
      PassesOwn (model P w) (A.deeper (envOfC qual scope s.heap.objs.size f cdv)) (envOfC qual scope s.heap.objs.size f cdv) (cxOf (L2.CX P w) P w K mg base N qual scope f cdv A outer s H E).xe →
      Takes (cxOf (L2.CX P w) P w K mg base N qual scope f cdv A outer s H E) (fun cls d _ H => E cls d H) → DSs (cxOf (L2.CX P w) P w K mg base N qual scope f cdv A outer s H E) ⟨C.cls, none, some a, C.so⟩ (fun cls d _ H => E cls d H) body b) :
    FnOk P w K mg base (L2.CX P w) (k + 1) f fd ps (spI ⟨K, C⟩ c n (runI N.length c b)) := by
  refine F.ok S (fun vs H Q E ⟨a, Ca, dx, ws, G, ds, e, _, _, _, _, r, l, _⟩ => by rw [e, List.length_cons, r.length, l, hn]) fun cdv A outer s H vs Q E hr ⟨a, Ca, dx, ws, G, ds, e, hC, ha, ga, hs, r, l, h⟩ => ?_
  subst e
  have r2 : Reps ⟨K, ⟨C.cls, none, some a, C.so⟩⟩ G ws ds := Reps.cx (K := ⟨K, C⟩) (K' := ⟨K, ⟨C.cls, none, some a, C.so⟩⟩) rfl rfl r
  have wo : WOk ⟨K, ⟨C.cls, none, some a, C.so⟩⟩ G H a (.self c []) := ⟨rfl, Ca, dx, [], hC, ha, .nil⟩
  have hst : start N (V.ref a :: ws) = some (.ref a) :: (ws.map some ++ List.replicate (N.length - (ds.length + 1)) none) := by
    unfold L2.start
    rw [List.map_cons, List.cons_append, List.length_cons, r.length]
  refine ⟨_, (hbody a cdv A outer s H E hr (passes_of rfl) (takes_of rfl rfl rfl rfl)).pss, ⟨G, del H a⟩, G, _, by rw [hst]; exact er_startI hs ga wo r2 (N.length - (ds.length + 1)), ?_⟩
  unfold runI at h
  have mk : ∀ {G' H' : Hp} {σ : L2.St} {env : Env}, ER ⟨K, ⟨C.cls, none, some a, C.so⟩⟩ ⟨G, del H a⟩ G' H' σ env → Mkd G H a G' H' := fun {G' H' σ env} er => ⟨er.zg, er.sub, er.zh, fun b g nt => by
    cases q : G' b with
    | none => rfl
    | some o => exact absurd nt (er.new b (by rw [q]; simp) g)⟩
  show Post _ _ _ _ _ _
  cases hb : b (.own (.self c []) :: (ds.map SL.val ++ List.replicate (N.length - (ds.length + 1)) SL.no)) with
  | nx env =>
    rw [hb] at h
    dsimp only at h
    intro σ H' G' s' er
    cases hq : env.getD 0 .no with
    | own wq =>
      rw [hq] at h
      cases wq with
      | self c' fs =>
        dsimp only at h
        by_cases hcc : c' = c
        · rw [if_pos hcc] at h
          subst hcc
          have hi := getD_some hq (by simp)
          obtain ⟨v, h1, p, rfl, hp, Ca', dx', vs', k1, k2, k3⟩ := er.at' 0 _ hi
          cases hp
          have hCa : Ca' = Ca := by
            have z : C.cls c' = some Ca' := k1
            have z2 : C.cls c' = some Ca := hC
            rw [z] at z2
            exact Option.some.inj z2
          subst hCa
          exact h G' H' dx' vs' (mk er) (er.own 0 _ _ a hi h1 rfl).1 k2 (RepF.cx (K := ⟨K, ⟨C.cls, none, some a, C.so⟩⟩) (K' := ⟨K, C⟩) rfl rfl k3)
        · rw [if_neg hcc] at h; exact h.elim
      | _ => exact h.elim
    | _ => rw [hq] at h; exact h.elim
  | ret ev => rw [hb] at h; exact h.elim
  | exc e env =>
    rw [hb] at h
    exact fun σ H' G' cls d s' er kx => h cls d G' H' (mk er) (ExcOk.cx (K := ⟨K, ⟨C.cls, none, some a, C.so⟩⟩) (K' := ⟨K, C⟩) rfl rfl kx)
  | bk e => rw [hb] at h; exact h.elim
  | ct e => rw [hb] at h; exact h.elim
  | rtE v e => rw [hb] at h; exact h.elim
  | stuck => rw [hb] at h; exact h.elim
section
variable {X : Cx} {W : WX}
theorem make_at {pins : List (Addr × Obj)} {σ : L2.St} {H : Hp} {s : Shared} {Q : VK} {us : List Value} {vs : List V} {Cc f : Addr} {k : Nat} {fd : FuncData} {ps : List Str} {sp : Sp} (M : Mk X.K Cc f) (FO : FnOk X.prog X.w X.K X.mg X.base (L2.CX X.prog X.w) k f fd ps sp)
    (hr : Room (k + 1) X.A) (hb : Binds X.K fd ps []) (tk : Takes X W) (I : Inv X pins σ H s) (r : Vals vs us)
    (h : ∀ x dx, H x = none → H dx = none → dx ≠ x → sp (.ref x :: vs) (upd (upd H dx (.own x)) x (.ins Cc dx [])) (fun v H2 => v = .non ∧ Q (.ref x) H2) (WE W σ)) : wpAny (model X.prog X.w) X.A (call (.ref Cc) us) (EP X pins σ Q) X.xe s := by
  have n0 : H s.heap.objs.size = none := I.hok.fresh (Nat.le_refl _)
  have n1 : H (s.heap.objs.size + 1) = none := I.hok.fresh (Nat.le_succ _)
  have asked := h _ _ n1 n0 (Nat.ne_of_lt (Nat.lt_succ_self _))
  have J := I.made (C := Cc)
  have rr : Vals (V.ref (s.heap.objs.size + 1) :: vs) (Value.ref (s.heap.objs.size + 1) :: us) := .cons rfl r
  have len : (Value.ref (s.heap.objs.size + 1) :: us).length = ps.length := rr.length.symm.trans (FO.len _ _ _ _ asked)
  have bound := hb _ (Value.ref (s.heap.objs.size + 1) :: us) J.kIn (by rw [List.append_nil]; exact len)
  rw [List.append_nil] at bound
  have ran := FO.run _ X.stack _ _ ⟨Value.ref (s.heap.objs.size + 1) :: us, []⟩ _ _ _ _ (hr.make Cc us []) (J.env0.make Cc us []) bound rr asked
  refine wpAny_call (make_map I.kIn M.makes M.init (beq_iff_eq.mp M.fn) (codeAny_mono ran fun res s' got => ?_))
  match res, got with
  | .error e, got => exact passAt tk σ pins _ _ e s' J got
  | .ok (.ret u), got =>
    obtain ⟨v, H', J3, rv, ev, q3⟩ := J.after got
    subst ev
    exact ⟨rv, V.ref (s.heap.objs.size + 1), H', J3, rfl, q3⟩
  | .ok .next, got => exact got.elim
  | .ok .brk, got => exact got.elim
  | .ok .cont, got => exact got.elim
def tMakeS (Cc : Addr) (sp : Sp) (W : WX) (t : TA) : TE := fun σ H Q => t σ H fun vs H1 => ∀ x dx, H1 x = none → H1 dx = none → dx ≠ x → sp (.ref x :: vs) (upd (upd H1 dx (.own x)) x (.ins Cc dx [])) (fun v H2 => v = .non ∧ Q (.ref x) H2) (WE W σ)
theorem pe_makeS {Cc f : Addr} {k : Nat} {fd : FuncData} {ps : List Str} {sp : Sp} {x : Str} {e : Expr} {es : List Expr} {t : TA} {p pos : Pos} (M : Mk X.K Cc f) (FO : FnOk X.prog X.w X.K X.mg X.base (L2.CX X.prog X.w) k f fd ps sp)
    (hr : Room (k + 1) X.A) (hb : Binds X.K fd ps []) (tk : Takes X W) (hg : Gl X x) (hm : X.mg x = some (.ref Cc)) (ha : PA X (e :: es) t) (hdb : (x == ("__debug__" : Str)) = false := by decide) (he : starEach (e :: es) X.env = (false, eval e X.env) :: starEach es X.env := by rfl)
    (hpl : (backTo pos (starEach es X.env)).any (·.1) = false := by rfl) : PE X (.Call (.Name x p) (e :: es) [] pos) (tMakeS Cc sp W t) := ⟨fun pins s σ H Q I h =>
  wpAny_Call_Name_kw (ld_glob I hg hm (PySem.W.callWith_K (h₀ := X.base) I.ok.mod.kin M.kp (thn (ha.run pos pins s σ H _ I h) fun us s1 ⟨vs, H1, I1, r, q⟩ => ⟨I1.kIn, make_at M FO hr hb tk I1 r q⟩) he hpl) hdb)⟩
end
def InG (P : Program) (w : World) (K : KC) (mg : Str → Option Value) (base : Heap) (k : Nat) (c : Str) (n : Nat) (IF : IFn) : Prop :=
  ∃ (Ca f : Addr) (fd : FuncData) (ps : List Str), mg c = some (.ref Ca) ∧ K.C.cls c = some Ca ∧ Mk K.K Ca f ∧ FnOk P w K.K mg base (L2.CX P w) k f fd ps (spI K c n IF) ∧ Binds K.K fd ps []
def appI (c : Str) (IF : IFn) (evs : List EV) : Rz EV := match IF (evs.map EV.d) with
  | .ok fs => if allFzB evs = true ∨ pureFs fs = true then .ok (.ow true (.ins c fs)) else .stuck
  | .exc e => if allFzB evs = true ∨ pureFs e.fs = true then .exc e else .stuck
  | .stuck => .stuck
def mMake (c : Str) (n : Nat) (IF : IFn) (m : Env → Rz (List EV)) : Env → Rz EV := fun env => m env >>= fun evs => if evs.length = n then appI c IF evs else .stuck
section
variable {X : Cx} {C : CT} {W : WX}
theorem ask_init {IF : IFn} {c : Str} {n : Nat} {Ca : Addr} {Z : Ent} {G1 H1 Hs : Hp} {σ : L2.St} {env : Env} {vs : List V} {evs : List EV} {Q : VK} {E : XK} (er : ER (kc X C) Z G1 H1 σ env) (va : EVs (kc X C) Z Hs G1 H1 vs evs) (hn : evs.length = n) (hC : C.cls c = some Ca)
    (q : match appI c IF evs with
      | .ok ev => ∀ v G' H', Ext G1 H1 G' H' → EVok (kc X C) Z H1 G' H' v ev → Q v H'
      | .exc e => ∀ cls d G' H', Ext G1 H1 G' H' → ExcOk (kc X C) G' H' cls d e → E cls d H'
      | .stuck => False) (x dx : Addr) (hx : H1 x = none) (hdx : H1 dx = none) (hne : dx ≠ x) :
    spI (kc X C) c n IF (.ref x :: vs) (upd (upd H1 dx (.own x)) x (.ins Ca dx [])) (fun v H2 => v = .non ∧ Q (.ref x) H2) E := by
  have up1 : Sub H1 (del (upd (upd H1 dx (.own x)) x (.ins Ca dx [])) x) := fun b o e => by
    rw [del_ne (ne_of_none e hx), upd_ne (ne_of_none e hx), upd_ne (ne_of_none e hdx)]; exact e
  have up2 : Sub H1 (upd (upd H1 dx (.own x)) x (.ins Ca dx [])) := up1.trans del_sub
  have ext : ∀ {G0 G' H' : Hp}, Mkd G0 (upd (upd H1 dx (.own x)) x (.ins Ca dx [])) x G' H' → Ext G0 H1 G' H' := fun {G0 G' H'} m => ⟨m.g, up1.trans m.h, m.s, fun b e nt => m.n b e (nt.mono up1)⟩
  unfold appI at q
  by_cases hf : allFzB evs = true
  · refine ⟨x, Ca, dx, vs, G1, evs.map EV.d, rfl, hC, upd_same, er.sub.none hx, er.sub.trans up2, va.repsF hf, by rw [List.length_map]; exact hn, ?_⟩
    cases hF : IF (evs.map EV.d) with
    | stuck => rw [hF] at q; exact q
    | exc e =>
      rw [hF] at q
      dsimp only at q
      rw [if_pos (.inl hf)] at q
      exact fun cls d G' H' m k => q cls d G' H' (ext m) k
    | ok fs =>
      rw [hF] at q
      dsimp only at q
      rw [if_pos (.inl hf)] at q
      exact fun G' H' dx' vs' m g' e r => ⟨rfl, q _ G' H' (ext m) ⟨x, rfl, ⟨Ca, dx', vs', hC, e, r⟩, g', er.zh.none hx, fun _ => hx⟩⟩
  · refine ⟨x, Ca, dx, vs, H1, evs.map EV.d, rfl, hC, upd_same, hx, up2, va.reps er.sub, by rw [List.length_map]; exact hn, ?_⟩
    have lower : ∀ {G' H' : Hp}, Ext H1 H1 G' H' → Ext G1 H1 (orH G1 (tups H')) H' := fun {G' H'} y =>
      ⟨orH_l _ _, y.h, orH_sub (er.sub.trans y.h) (tups_sub H'), fun b e nt => by rw [orH_none e]; exact tups_nt (nt.mono y.h)⟩
    cases hF : IF (evs.map EV.d) with
    | stuck => rw [hF] at q; exact q
    | exc e =>
      rw [hF] at q
      dsimp only at q
      intro cls d G' H' m k
      by_cases hp : pureFs e.fs = true
      · rw [if_pos (.inr hp)] at q
        have y := ext m
        refine q cls d _ H' (lower y) ?_
        obtain ⟨a, h1, h2, h3⟩ := k
        refine ⟨a, h1, h2, ?_⟩
        rcases h3 with h3 | ⟨dd, fs, h3, h4, h5⟩
        · exact .inl h3
        · exact .inr ⟨dd, fs, h3, orH_r (er.sub.trans y.h) (tups_sub H') _ _ (tups_getX (y.s _ _ h4)), (pure_repF (h5.mono y.s) hp).mono (orH_r (er.sub.trans y.h) (tups_sub H'))⟩
      · rw [if_neg (fun z => z.elim hf hp)] at q; exact q.elim
    | ok fs =>
      rw [hF] at q
      dsimp only at q
      intro G' H' dx' vs' m g' e r
      by_cases hp : pureFs fs = true
      · rw [if_pos (.inr hp)] at q
        have y := ext m
        refine ⟨rfl, q _ _ H' (lower y) ⟨x, rfl, ⟨Ca, dx', vs', hC, e, (pure_repF (r.mono y.s) hp).mono (orH_r (er.sub.trans y.h) (tups_sub H'))⟩, ?_, er.zh.none hx, fun _ => hx⟩⟩
        rw [orH_none (er.sub.none hx)]
        exact tups_nt ⟨_, e, rfl⟩
      · rw [if_neg (fun z => z.elim hf hp)] at q; exact q.elim
theorem de_make {IF : IFn} {k n : Nat} {x : Str} {p pos : Pos} {e : Expr} {es : List Expr} {m : Env → Rz (List EV)} (IG : InG X.prog X.w (kc X C) X.mg X.base k x n IF) (hr : Room (k + 1) X.A) (tk : Takes X W) (ha : DA X C W (e :: es) m) (hg : Gl X x := by rfl) (hdb : (x == ("__debug__" : Str)) = false := by decide)
    (he : starEach (e :: es) X.env = (false, eval e X.env) :: starEach es X.env := by rfl) (hpl : (backTo pos (starEach es X.env)).any (·.1) = false := by rfl) : DE X C W (.Call (.Name x p) (e :: es) [] pos) (mMake x n IF m) := by
  obtain ⟨Ca, f, fd, ps, hm, hC, M, FO, hb⟩ := IG
  exact ⟨PE.imp (pe_makeS M FO hr hb tk hg hm ha.pa hdb he hpl) fun σ H Q h => tA_seq (f := fun evs _ => if evs.length = n then appI x IF evs else .stuck) h fun Z G1 H1 env vs a er va hs q x' dx hx hdx hne => by
    by_cases hn : a.length = n
    · rw [if_pos hn] at q
      exact ask_init er va hn hC q x' dx hx hdx hne
    · rw [if_neg hn] at q; exact q.elim⟩
end
end DL
namespace DL
open PySem PySem.Spec PyProof.Rows L2
def MeG (P : Program) (w : World) (K : KC) (mg : Str → Option Value) (base : Heap) (k : Nat) (c m : Str) (n : Nat) (F : Fn) : Prop :=
  ∃ (Ca f : Addr) (fd : FuncData) (ps : List Str), K.C.cls c = some Ca ∧ Cls K.K Ca ∧ Meth K.K Ca m f ∧ FnOk P w K.K mg base (L2.CX P w) k f fd ps (spD K n F) ∧ Binds K.K fd ps []
theorem MeG.cx {P : Program} {w : World} {K : PySem.W.Frag} {C C' : CT} {mg : Str → Option Value} {base : Heap} {k n : Nat} {c m : Str} {F : Fn} (h2 : C.cls = C'.cls) (h3 : C.slf = none) (h : MeG P w ⟨K, C⟩ mg base k c m n F) : MeG P w ⟨K, C'⟩ mg base k c m n F := by
  obtain ⟨Ca, f, fd, ps, f1, f2, f3, f4, f5⟩ := h
  exact ⟨Ca, f, fd, ps, h2 ▸ f1, f2, f3, f4.imp fun vs H Q E z => spD_cx (K := ⟨K, C⟩) (K' := ⟨K, C'⟩) rfl h2 h3 z, f5⟩
def insOf (c m : Str) : D → Bool
  | .ins c' fs => decide (c' = c) && (fs.lookup m).isNone
  | _ => false
def mMe (c m : Str) (F : Fn) (n : Nat) (o : Env → Rz EV) (a : Env → Rz (List EV)) : Env → Rz EV := fun env => o env >>= fun x => if insOf c m x.d = true then a env >>= fun xs => if xs.length + 1 = n then appF F (x.fr :: xs) else .stuck else .stuck
section
variable {X : Cx} {C : CT} {W : WX}
def tMethS (Cc : Addr) (m : Str) (sp : Sp) (W : WX) (ta : TE) (t : TA) : TE := fun σ H Q => ta σ H fun x H1 => ∃ a dx fs, x = .ref a ∧ H1 a = some (.ins Cc dx fs) ∧ fs.lookup m = none ∧ t σ H1 fun vs H2 => sp (x :: vs) H2 Q (WE W σ)
section
variable {Cc f : Addr} {m : Str} {k : Nat} {fd : FuncData} {ps : List Str} {sp : Sp} {o e : Expr} {es : List Expr} {ta : TE} {t : TA} {apos pos : Pos} {pl : Sem Bool}
theorem pe_methS (he : PE X o ta) (c : Cls X.K Cc) (hm : Meth X.K Cc m f) (FO : FnOk X.prog X.w X.K X.mg X.base (L2.CX X.prog X.w) k f fd ps sp) (hr : Room k X.A) (hb : Binds X.K fd ps []) (tk : Takes X W) (ha : PA X (e :: es) t)
    (hst : starEach (e :: es) X.env = (false, eval e X.env) :: starEach es X.env) (hpl : (backTo pos (starEach es X.env)).any (·.1) = false)
    (ht : eval (.Call (.Attribute o m apos) (e :: es) [] pos) X.env = (do
      let ov ← eval o X.env
      standAt apos.atName
      let (g, first) ← holding [ov] (getMethod ov m pl)
      callWith pos g first (backTo pos (starEach (e :: es) X.env)) (backToKw pos (keywordEach [] X.env)))) : PE X (.Call (.Attribute o m apos) (e :: es) [] pos) (tMethS Cc m sp W ta t) := ⟨fun pins s σ H Q I h =>
  PySem.W.methodCall_KW (pl := pl) (thn (he.run pins s σ H _ I h) fun u s1 ⟨x, H1, I1, rx, a, dx, fs, ex, ea, l, q⟩ => by
    subst ex
    have eu : u = Value.ref a := rx
    rw [eu]
    exact getmeth_ok I1 ea c hm l (PySem.W.callWith_K (first := [.ref a]) (h₀ := X.base) I.ok.mod.kin hm.kp (thn (ha.run pos pins s1 σ H1 _ I1 q) fun us s2 ⟨vs, H2, I2, r, q2⟩ => ⟨I2.kIn, run_fnS (E := WE W) (us := .ref a :: us) (vs := .ref a :: vs) FO hr hb (passAt tk σ) I2 (.cons rfl r) q2⟩) hst hpl)) ht⟩
end
theorem meth_go {c m : Str} {F : Fn} {n : Nat} {Ca : Addr} {mo : Env → Rz EV} {ma : Env → Rz (List EV)} {σ : L2.St} {H : Hp} {Q : VK} (hC : C.cls c = some Ca) (h : tE (kc X C) W (mMe c m F n mo ma) σ H Q) : tMethS Ca m (spD (kc X C) n F) W (tE (kc X C) W mo) (tA (kc X C) W ma) σ H Q := by
  obtain ⟨Z, G, env, er, q⟩ := h
  unfold mMe at q
  refine ⟨Z, G, env, er, ?_⟩
  cases ho : mo env with
  | stuck => rw [ho] at q; exact q.elim
  | exc e => rw [ho] at q; exact q
  | ok a =>
    rw [ho] at q
    simp only [Rz.ok_bind] at q
    intro v G1 H1 x1 va
    by_cases hi : insOf c m a.d = true
    · rw [if_pos hi] at q
      obtain ⟨fs, hd, hl⟩ : ∃ fs, a.d = .ins c fs ∧ fs.lookup m = none := by
        cases hd : a.d with
        | ins c' fs =>
          rw [hd] at hi
          obtain ⟨h1, h2⟩ := He.ba (show (decide (c' = c) && (fs.lookup m).isNone) = true from hi)
          have h3 : c' = c := of_decide_eq_true h1
          subst h3
          exact ⟨fs, rfl, by simpa using h2⟩
        | _ => rw [hd] at hi; cases hi
      obtain ⟨p, Ca', dx, vs, e1, e2, e3, r⟩ := ins_of x1.s va hd
      have hCa : Ca' = Ca := by
        have z : C.cls c = some Ca' := e2
        rw [hC] at z
        exact (Option.some.inj z).symm
      subst hCa
      obtain ⟨G2, x2, s2, va2⟩ := va.fr x1 .refl
      refine ⟨p, dx, vs, e1, e3, r.look_none hl, Z, G2, env, er.ext x2, ?_⟩
      cases hb : ma env with
      | stuck => rw [hb] at q; exact q.elim
      | exc e => rw [hb] at q; exact fun cls d G' H' x3 => q cls d G' H' (x2.trans x3)
      | ok b =>
        rw [hb] at q
        simp only [Rz.ok_bind] at q
        intro us G3 H3 x3 vb
        by_cases hn : b.length + 1 = n
        · rw [if_pos hn] at q
          refine ask_fn (er.ext (x2.trans x3)) (.cons (va2.ext x3) (vb.start x2.h)) (by rw [List.length_cons]; exact hn) ?_
          cases hF : appF F (a.fr :: b) with
          | stuck => rw [hF] at q; exact q
          | exc e => rw [hF] at q; exact fun cls d G' H' x4 => q cls d G' H' (x2.trans (x3.trans x4))
          | ok ev => rw [hF] at q; exact fun v' G' H' x4 k => q v' G' H' (x2.trans (x3.trans x4)) (k.start (x2.trans x3).h)
        · rw [if_neg hn] at q; exact q.elim
    · rw [if_neg hi] at q; exact q.elim
theorem de_me {c m : Str} {F : Fn} {k n : Nat} {o e : Expr} {es : List Expr} {mo : Env → Rz EV} {ma : Env → Rz (List EV)} {apos pos : Pos} {pl : Sem Bool} (MG : MeG X.prog X.w (kc X C) X.mg X.base k c m n F) (hr : Room k X.A) (tk : Takes X W) (ho : DE X C W o mo) (ha : DA X C W (e :: es) ma)
    (hst : starEach (e :: es) X.env = (false, eval e X.env) :: starEach es X.env := by rfl) (hpl : (backTo pos (starEach es X.env)).any (·.1) = false := by rfl)
    (ht : eval (.Call (.Attribute o m apos) (e :: es) [] pos) X.env = (do
      let ov ← eval o X.env
      standAt apos.atName
      let (g, first) ← holding [ov] (getMethod ov m pl)
      callWith pos g first (backTo pos (starEach (e :: es) X.env)) (backToKw pos (keywordEach [] X.env))) := by rfl) : DE X C W (.Call (.Attribute o m apos) (e :: es) [] pos) (mMe c m F n mo ma) := by
  obtain ⟨Ca, f, fd, ps, hC, hc, hm, FO, hb⟩ := MG
  exact ⟨PE.imp (pe_methS (pl := pl) ho.pe hc hm FO hr hb tk ha.pa hst hpl ht) fun σ H Q h => meth_go hC h⟩
end
end DL
namespace DL
open PySem PySem.Spec PyProof.Rows L2
def seqD : EV → Option (List D)
  | .fz (.lst ds) => some ds
  | .fz (.tup ds) => some ds
  | .fz (.scr ns) => some (ns.map .int)
  | .ow _ (.lst ds) => some ds
  | _ => none
def gTuple : List EV → Rz EV
  | [a] => orStuck (seqD a) >>= fun ds => .ok (.fz (.tup ds))
  | _ => .stuck
def gList : List EV → Rz EV
  | [a] => orStuck (seqD a) >>= fun ds => .ok (.ow true (.lst ds))
  | _ => .stuck
@[simp] theorem gTuple_one (a : EV) : gTuple [a] = orStuck (seqD a) >>= fun ds => .ok (.fz (.tup ds)) := rfl
@[simp] theorem gList_one (a : EV) : gList [a] = orStuck (seqD a) >>= fun ds => .ok (.ow true (.lst ds)) := rfl
theorem ne_gTuple : NoExcL gTuple := ⟨fun a e h => by
  unfold gTuple at h
  split at h
  · exact noexc_bind (fun _ _ z => by cases z) e h
  · cases h⟩
theorem ne_gList : NoExcL gList := ⟨fun a e h => by
  unfold gList at h
  split at h
  · exact noexc_bind (fun _ _ z => by cases z) e h
  · cases h⟩
theorem seq_of {K : KC} {Z : Ent} {Hs G H : Hp} {v : V} {a : EV} {ds : List D} (s : Sub G H) (va : EVok K Z Hs G H v a) (h : seqD a = some ds) : ∃ p us, v = .ref p ∧ (SqL K.K H p us ∨ (a = .fz (.tup ds) ∧ SqT K.K H p us)) ∧ Reps K G us ds := by
  unfold seqD at h
  split at h
  · cases h
    have va' : Rep K G v (.lst ds) := va
    cases va' with
    | lst e r => exact ⟨_, _, rfl, .inl (.of (s _ _ e)), r⟩
  · cases h
    have va' : Rep K G v (.tup ds) := va
    cases va' with
    | tup e r => exact ⟨_, _, rfl, .inr ⟨rfl, .of (s _ _ e)⟩, r⟩
  · rename_i ns
    cases h
    have va' : Rep K G v (.scr ns) := va
    cases va' with
    | scr e => exact ⟨_, _, rfl, .inl (s.sqL e), Reps.ints ns⟩
  · cases h
    obtain ⟨p, e, ⟨us, e', r⟩, _⟩ := va
    exact ⟨p, us, e, .inl (.of e'), r⟩
  · cases h
section
variable {X : Cx} {C : CT} {W : WX}
theorem cd_tuple : CallD X C (.type "tuple") gTuple := ⟨_, call_tuple_of, fun Z G H Hs vs evs ev Q s zh va hg q => by
  unfold gTuple at hg
  split at hg
  · rename_i a
    obtain ⟨v, rfl, k⟩ := evs1 va
    cases hd : seqD a with
    | none => rw [hd] at hg; cases hg
    | some ds =>
      rw [hd] at hg
      cases hg
      obtain ⟨p, us, e, sq, r⟩ := seq_of s k hd
      subst e
      rcases sq with sq | ⟨ea, sq⟩
      · exact ⟨p, us, rfl, .inl ⟨sq, fun l hl => q _ _ _ (.lay2 s hl) (.tup upd_same (r.mono (.upd (s.none hl))))⟩⟩
      · subst ea
        exact ⟨p, us, rfl, .inr ⟨sq, q _ G H (.refl s) k⟩⟩
  · cases hg⟩
theorem cd_list : CallD X C (.type "list") gList := ⟨_, call_list_of, fun Z G H Hs vs evs ev Q s zh va hg q => by
  unfold gList at hg
  split at hg
  · rename_i a
    obtain ⟨v, rfl, k⟩ := evs1 va
    cases hd : seqD a with
    | none => rw [hd] at hg; cases hg
    | some ds =>
      rw [hd] at hg
      cases hg
      obtain ⟨p, us, e, sq, r⟩ := seq_of s k hd
      subst e
      exact ⟨p, us, rfl, sq.elim .inl fun z => .inr z.2, fun l hl => q _ _ _ (.lay s hl) ⟨l, rfl, ⟨us, upd_same, r⟩, s.none hl, zh.none hl, fun _ => hl⟩⟩
  · cases hg⟩
end
end DL
namespace DL
open PySem PySem.Spec PyProof.Rows L2
def negD : EV → Rz EV
  | .fz (.int i) => .ok (.fz (.int (-i)))
  | _ => .stuck
def mNeg (m : Env → Rz EV) : Env → Rz EV := fun env => m env >>= negD
def revD (a : EV) : Rz EV := match a.d with
  | .lst ds => .ok (.ow true (.lst ds.reverse))
  | .scr ns => .ok (.ow true (.lst (ns.map D.int).reverse))
  | _ => .stuck
def mRev (m : Env → Rz EV) : Env → Rz EV := fun env => m env >>= revD
section
variable {X : Cx} {C : CT} {W : WX}
theorem one_go {m : Env → Rz EV} {g : EV → Rz EV} {σ : L2.St} {H : Hp} {Q : VK} {R : V → Hp → Prop} (hg : ∀ a e, g a ≠ .exc e) (h : tE (kc X C) W (fun env => m env >>= g) σ H Q)
    (hr : ∀ (Z : Ent) (G1 H1 : Hp) (v : V) (a : EV), Sub G1 H1 → Sub Z.H H1 → EVok (kc X C) Z H G1 H1 v a → (match g a with
      | .ok ev => ∀ v G' H', Ext G1 H1 G' H' → EVok (kc X C) Z H1 G' H' v ev → Q v H'
      | _ => False) → R v H1) : tE (kc X C) W m σ H R := by
  obtain ⟨Z, G, env, er, q⟩ := h
  refine ⟨Z, G, env, er, ?_⟩
  cases hm : m env with
  | stuck => simp only [hm] at q; exact q.elim
  | exc e => simp only [hm] at q; exact q
  | ok a =>
    simp only [hm, Rz.ok_bind] at q
    intro v G1 H1 x1 va
    refine hr Z G1 H1 v a x1.s (er.zh.trans x1.h) va ?_
    cases hq : g a with
    | stuck => rw [hq] at q; exact q
    | exc e => exact absurd hq (hg a e)
    | ok ev => rw [hq] at q; exact fun v' G' H' x2 k => q v' G' H' (x1.trans x2) (k.start x1.h)
theorem negD_exc (a : EV) (e : Exn) : negD a ≠ .exc e := by unfold negD; split <;> simp
theorem revD_exc (a : EV) (e : Exn) : revD a ≠ .exc e := by unfold revD; split <;> simp
theorem de_neg {e : Expr} {m : Env → Rz EV} {pos : Pos} (he : DE X C W e m) : DE X C W (.UnaryOp .USub e pos) (mNeg m) :=
  ⟨PE.imp (pe_un un_neg he.pe) fun σ H Q h => one_go negD_exc h fun Z G1 H1 v a s zh va q => by
    unfold negD at q
    split at q
    · rename_i z
      split at z
      · rename_i i
        cases z
        have e : v = V.int i := rep_int va
        exact ⟨i, e, q _ G1 H1 (.refl s) (.int _)⟩
      · cases z
    · exact q.elim⟩
theorem de_rev {e : Expr} {m : Env → Rz EV} {k : Nat} {p1 p2 p3 pos : Pos} (he : DE X C W e m) : DE X C W (.Subscript e (.Slice none none (some (.UnaryOp .USub (.Constant (.int 1) k p1) p2)) p3) pos) (mRev m) :=
  ⟨PE.imp (pe_revL he.pe) fun σ H Q h => one_go revD_exc h fun Z G1 H1 v a s zh va q => by
    unfold revD at q
    cases a with
    | fz d =>
      cases d with
      | lst ds =>
        have va' : Rep (kc X C) G1 v (.lst ds) := va
        cases va' with
        | lst e r => exact ⟨_, _, rfl, .inl (.of (s _ _ e)), fun p hp => q _ _ _ (.lay s hp) ⟨p, rfl, ⟨_, upd_same, r.reverse⟩, s.none hp, zh.none hp, fun _ => hp⟩⟩
      | scr ns =>
        have va' : Rep (kc X C) G1 v (.scr ns) := va
        cases va' with
        | scr e => exact ⟨_, _, rfl, s.sqL e, fun p hp => q _ _ _ (.lay s hp) ⟨p, rfl, ⟨_, upd_same, (Reps.ints ns).reverse⟩, s.none hp, zh.none hp, fun _ => hp⟩⟩
      | _ => exact q.elim
    | ow n w =>
      cases w with
      | lst ds =>
        obtain ⟨p0, e, ⟨us, e', r⟩, _⟩ := va
        exact ⟨p0, us, e, .inl (.of e'), fun p hp => q _ _ _ (.lay s hp) ⟨p, rfl, ⟨_, upd_same, r.reverse⟩, s.none hp, zh.none hp, fun _ => hp⟩⟩
      | wlk ds =>
        obtain ⟨p0, e, ⟨_, us, e', r⟩, _⟩ := va
        exact ⟨p0, us, e, .inl (.of e'), fun p hp => q _ _ _ (.lay s hp) ⟨p, rfl, ⟨_, upd_same, r.reverse⟩, s.none hp, zh.none hp, fun _ => hp⟩⟩
      | _ => exact q.elim⟩
def finO : Out → Out
  | .nx env => .nx (env.map unX)
  | .bk env => .bk (env.map unX)
  | .ct env => .ct (env.map unX)
  | .ret ev => .ret ev
  | .rtE ev env => .rtE ev (env.map unX)
  | _ => .stuck
end
end DL
namespace DS
open PySem PySem.Spec PyProof.Rows L2
def kOf : Value → Key
  | .int i _ => .inl i
  | .str x _ => .inr x
  | _ => .inl 0
abbrev eK (e : Int × Value) : Key := kOf e.2
def EntOk (w : World) (e : Int × Value) : Prop := keyIs (eK e) e.2 = true ∧ e.1 = keyH w (eK e)
theorem kOf_is {k : Key} {v : Value} (h : keyIs k v = true) : kOf v = k := by
  rcases keyIs_shape h with ⟨i, t, rfl, rfl⟩ | ⟨x, t, rfl, rfl⟩ <;> rfl
theorem is_scan {k : Key} {v : Value} (h : keyIs k v = true) : v.scannable = true := by
  rcases keyIs_shape h with ⟨i, t, rfl, rfl⟩ | ⟨x, t, rfl, rfl⟩ <;> rfl
def SetW (w : World) (h : Heap) (a : Addr) (S : Key → Bool) (n : Nat) : Prop :=
  ∃ o es ep t, h.get? a = some o ∧ (o.ExactSet ∧ o.data = .set es ep t) ∧ ((∀ e ∈ es.toList, EntOk w e) ∧ (es.toList.map eK).Nodup ∧ ∀ k, S k = true ↔ k ∈ es.toList.map eK) ∧
    (es.size < scanBound ∧ t.fits es.size = true ∧ es.size = n) ∧ Ris t.place.toList ∧ (w.params.followText "set-order" = true ∨ t.led = true)
section
variable {P : Program} {w : World} {h h' : Heap} {a : Addr} {S : Key → Bool} {n : Nat}
theorem SetW.at (R : SetW w h a S n) (k : ∀ o, h.get? a = some o → h'.get? a = some o) : SetW w h' a S n :=
  let ⟨o, es, ep, t, ho, r⟩ := R
  ⟨o, es, ep, t, k o ho, r⟩
theorem SetW.congr {S' : Key → Bool} (R : SetW w h a S n) (e : ∀ k, S' k = S k) : SetW w h a S' n := (funext e : S' = S) ▸ R
theorem ents {l : List (Int × Value)} (g : ∀ e ∈ l, EntOk w e) : ElemsOf (mixKind P w) l := fun e he => ⟨⟨eK e, (g e he).1, (g e he).2⟩, is_scan (g e he).1⟩
theorem ent_is {e : Int × Value} (g : EntOk w e) (k : Key) : (mixKind P w).is k e.2 = true ↔ eK e = k := ⟨fun q => kOf_is q, fun q => q ▸ g.1⟩
theorem ent_mem {l : List (Int × Value)} (g : ∀ e ∈ l, EntOk w e) (k : Key) : k ∈ l.map eK ↔ ∃ e ∈ l, (mixKind P w).is k e.2 = true :=
  List.mem_map.trans ⟨fun ⟨e, he, q⟩ => ⟨e, he, (ent_is (g e he) k).2 q⟩, fun ⟨e, he, q⟩ => ⟨e, he, (ent_is (g e he) k).1 q⟩⟩
end
section
variable {P : Program} {w : World} {A : Around} {E : Value → Shared → Prop} {s : Shared} {a : Addr} {S : Key → Bool} {n : Nat}
theorem tail_add {g : Bool → Sem Unit} (hg : ∀ (b : Bool) (z : Shared) (Q' : Unit → Shared → Prop), Q' () z → wpAny (model P w) A (g b) Q' E z)
    {o : Obj} {es : Array (Int × Value)} {ep : Nat} {t : SetTable} (ho : s.heap.get? a = some o) (hex : o.ExactSet) (hd : o.data = .set es ep t) {e1 : Array (Int × Value)} {t2 : SetTable} {S' : Key → Bool}
    (b1 : (∀ e ∈ e1.toList, EntOk w e) ∧ (e1.toList.map eK).Nodup ∧ ∀ k, S' k = true ↔ k ∈ e1.toList.map eK) (hb1 : e1.size < scanBound) (hf2 : t2.fits e1.size = true) (hr : Ris t2.place.toList)
    (hl : w.params.followText "set-order" = true ∨ t2.led = true) {dm : Bool} {R : Option Bool → Shared → Prop} (hR : ∀ h', Heap.SameBut a s.heap h' → SetW w h' a S' e1.size → R (some true) { s with heap := h' }) :
    wpAny (model P w) A (do
      storeSet a e1 t2
      if (!dm && t2.tooFull) = true then do
          g (relayAll t2 e1 (SetTable.grown e1.size)).2.2
          storeSet a (relayAll t2 e1 (SetTable.grown e1.size)).1 (relayAll t2 e1 (SetTable.grown e1.size)).2.1
          pure (some true)
        else pure (some true)) R E s := by
  refine wpAny_bind (wpAny_storeSet_of ho hd ?_ (fits_of_scanBound hb1))
  have o1 := store_at (es' := e1) (t' := t2) ho hd
  have w1 := Heap.SameBut.update s.heap a (Obj.putSet e1 t2)
  split
  · have pm := relayAll_perm t2 e1 (SetTable.grown e1.size)
    have f3 := relayAll_fits t2 e1 (SetTable.grown e1.size)
    have r3 := relayAll_ris t2 e1 (SetTable.grown e1.size)
    have l3 := relayAll_led t2 e1 (SetTable.grown e1.size)
    generalize relayAll t2 e1 (SetTable.grown e1.size) = Z at pm f3 r3 l3 ⊢
    obtain ⟨e2, t3, gv⟩ := Z
    dsimp only at pm f3 r3 l3 ⊢
    have hz : e2.size = e1.size := by rw [← Array.length_toList, pm.length_eq, Array.length_toList]
    have hz2 : e2.size < scanBound := hz ▸ hb1
    refine wpAny_bind (hg _ _ _ (wpAny_bind (wpAny_storeSet_of o1 rfl ?_ (fits_of_scanBound hz2))))
    have o2 := store_at (es' := e2) (t' := t3) o1 rfl
    refine wpAny_pure (hR _ (w1.trans (Heap.SameBut.update _ a _)) ⟨_, e2, _, t3, o2, ⟨hex, rfl⟩, ⟨fun e he => b1.1 e (pm.mem_iff.mp he), (pm.map eK).nodup_iff.mpr b1.2.1, fun k => (b1.2.2 k).trans (pm.map eK).mem_iff.symm⟩, ⟨hz2, f3, hz⟩, r3, hl.imp id fun z => by rw [l3]; exact z⟩)
  · exact wpAny_pure (hR _ w1 ⟨_, e1, _, t2, o1, ⟨hex, rfl⟩, b1, ⟨hb1, hf2, rfl⟩, hr, hl⟩)
theorem add_hashed {k : Key} {v : Value} (hv : keyIs k v = true) {Q : Bool → Shared → Prop} (R : SetW w s.heap a S n) (room : n + 1 < scanBound)
    (hQ : ∀ h', Heap.SameBut a s.heap h' → SetW w h' a (fun j => S j || decide (j = k)) (if S k = true then n else n + 1) → Q (!S k) { s with heap := h' }) :
    wpAny (model P w) A (setAddHashed a v ((mixKind P w).hash k)) Q E s := by
  obtain ⟨o, es, ep, t, ho, ⟨hex, hd⟩, ⟨g, nd, hm⟩, ⟨hb, hf, hn⟩, hr, hl⟩ := R
  have hel : ElemsOf (mixKind P w) es.toList := ents g
  unfold setAddHashed setAddHashedIn
  refine wpAny_holding (wpAny_bind (wpAny_setState_of ho hd hf ?_))
  dsimp only
  rw [byScan_of (is_scan hv) hb hel]
  simp only [↓reduceIte]
  unfold setAddByScan
  refine wpAny_bind (wpAny_bind (wpAny_rule (wpAny_bind (wpAny_setScan_of (knd := mixKind P w) hv ho hd hf hel ?_))))
  cases hfi : List.findIdx? (fun e => (mixKind P w).is k e.2) es.toList with
  | some j =>
    obtain ⟨hj, pj, _⟩ := List.findIdx?_eq_some_iff_getElem.mp hfi
    have hSk : S k = true := (hm k).2 ((ent_mem (P := P) g k).2 ⟨es.toList[j], List.getElem_mem hj, pj⟩)
    dsimp only
    refine wpAny_pure (wpAny_pure ?_)
    have q := hQ s.heap (Heap.SameBut.refl a s.heap) ⟨o, es, ep, t, ho, ⟨hex, hd⟩, ⟨g, nd, fun i => by
      rw [Bool.or_eq_true, decide_eq_true_eq, ← hm i]
      exact ⟨fun z => z.elim id (fun e => e ▸ hSk), .inl⟩⟩, ⟨hb, hf, by rw [if_pos hSk]; exact hn⟩, hr, hl⟩
    rwa [hSk] at q
  | none =>
    have hnk : k ∉ es.toList.map eK := fun z => by
      obtain ⟨e, he, q⟩ := (ent_mem (P := P) g k).1 z
      rw [List.findIdx?_eq_none_iff.mp hfi e he] at q
      cases q
    have hSk : S k = false := Bool.eq_false_iff.mpr fun q => hnk ((hm k).1 q)
    dsimp only
    have gw : ∀ (b : Bool) {z : Shared} {Q' : Unit → Shared → Prop}, Q' () z → wpAny (model P w) A (match b with | true => rule "set.scan.the-table-gave-way" | false => pure ()) Q' E z :=
      fun b z Q' q => by cases b with
        | true => exact wpAny_rule q
        | false => exact wpAny_pure q
    have pm := layNew_perm t es ((mixKind P w).hash k) v
    have f1 := layNew_fits t es ((mixKind P w).hash k) v
    have r1 := layNew_ris t es ((mixKind P w).hash k) v hr
    have l1 := layNew_led t es ((mixKind P w).hash k) v
    generalize layNew t es ((mixKind P w).hash k) v = Z at pm f1 r1 l1 ⊢
    obtain ⟨e1, t1, dm, gv⟩ := Z
    dsimp only at pm f1 r1 l1 ⊢
    rw [Array.toList_push] at pm
    have pc : e1.toList.Perm (((mixKind P w).hash k, v) :: es.toList) := pm.trans (List.perm_append_singleton _ _)
    have pk : (e1.toList.map eK).Perm (k :: es.toList.map eK) := (pc.map eK).trans (by rw [List.map_cons, show eK ((mixKind P w).hash k, v) = k from kOf_is hv])
    have b1 : (∀ e ∈ e1.toList, EntOk w e) ∧ (e1.toList.map eK).Nodup ∧ ∀ i, (S i || decide (i = k)) = true ↔ i ∈ e1.toList.map eK := ⟨fun e he => by
      rcases List.mem_cons.mp (pc.mem_iff.mp he) with z | z
      · subst z; unfold EntOk; rw [show eK ((mixKind P w).hash k, v) = k from kOf_is hv]; exact ⟨hv, rfl⟩
      · exact g e z, pk.nodup_iff.mpr (List.nodup_cons.mpr ⟨hnk, nd⟩), fun i => by
      rw [Bool.or_eq_true, decide_eq_true_eq, hm i, pk.mem_iff, List.mem_cons]
      exact Or.comm⟩
    have hz : e1.size = n + 1 := by rw [← Array.length_toList, pc.length_eq, List.length_cons, Array.length_toList, hn]
    have hb1 : e1.size < scanBound := hz ▸ room
    have led : w.params.followText "set-order" = true ∨ t1.led = true := hl.imp id fun z => l1 ▸ z
    have fin : ∀ h', Heap.SameBut a s.heap h' → SetW w h' a (fun j => S j || decide (j = k)) e1.size → Q true { s with heap := h' } := fun h' sb r => by
      have q := hQ h' sb
      rw [hSk] at q
      exact q (hz ▸ r)
    refine wpAny_bind (gw _ ?_)
    have gr : ∀ (b : Bool) (z : Shared) (Q' : Unit → Shared → Prop), Q' () z → wpAny (model P w) A (if b = true then rule "set.add.the-table-gave-way" else pure ()) Q' E z := fun b z Q' q => by cases b with
      | true => exact wpAny_rule q
      | false => exact wpAny_pure q
    split
    · refine wpAny_bind ?_
      rw [hashByValue_scannable 8 (is_scan hv)]
      refine wpAny_pure (tail_add (fun b z Q' q => ?_) ho hex hd b1 hb1 ?_ ?_ ?_ fun h' sb r => ?_)
      · cases b <;> first | exact wpAny_pure q | exact wpAny_rule q
      · first | (split <;> first | exact f1 | exact SetTable.fits_plain_off f1) | exact f1
      · first | (split <;> exact r1) | exact r1
      · first | (split <;> exact led) | exact led
      · dsimp only; exact wpAny_pure (fin h' sb r)
    · refine wpAny_bind (wpAny_pure ?_)
      simp only [↓reduceIte]
      refine tail_add (fun b z Q' q => ?_) ho hex hd b1 hb1 f1 r1 led fun h' sb r => ?_
      · cases b <;> first | exact wpAny_pure q | exact wpAny_rule q
      · dsimp only; exact wpAny_pure (fin h' sb r)
end
end DS
namespace DS
open PySem PySem.Spec PyProof.Rows L2
def KAre (us : List Value) (ks : List Key) : Prop := us.length = ks.length ∧ ∀ (i : Nat) (u : Value), us[i]? = some u → ∃ k, ks[i]? = some k ∧ keyIs k u = true
def km (j : Key) (ks : List Key) : Bool := ks.any fun k => decide (j = k)
theorem km_iff {j : Key} {ks : List Key} : km j ks = true ↔ j ∈ ks := by
  unfold km
  rw [List.any_eq_true]
  exact ⟨fun ⟨x, hx, q⟩ => (of_decide_eq_true q) ▸ hx, fun h => ⟨j, h, decide_eq_true rfl⟩⟩
abbrev emp (w : World) : Obj := { cls := .type "set", dict := none, data := .set #[] 0 (.fresh 0 0 (!w.params.followText "set-order")) }
theorem emp_at {w : World} {h : Heap} {a : Addr} {S : Key → Bool} (hS : ∀ k, S k = false) (ho : h.get? a = some (emp w)) : SetW w h a S 0 :=
  ⟨_, #[], 0, _, ho, ⟨⟨rfl, rfl, rfl⟩, rfl⟩, ⟨fun e he => by simp at he, by simp, fun k => by simp [hS k]⟩, ⟨by decide, by rfl, rfl⟩, List.Pairwise.nil, by
    show _ ∨ (!w.params.followText "set-order") = true
    cases w.params.followText "set-order" with
    | true => exact .inl rfl
    | false => exact .inr rfl⟩
section
variable {P : Program} {w : World} {A : Around} {E : Value → Shared → Prop} {s : Shared}
theorem upd_loop {I : Addr} {fp wr : List Addr} {G : Array GenState → Array GenState → Prop} {n : Nat} {Pv : Nat → Value → Prop} {St : Nat → Shared → Prop} {R : Result → Shared → Prop}
    (W : WalksS P w A.in1 I fp wr G n Pv St) (S : Addr) (hSf : S ∉ fp) (ks : List Key) (hn : n = ks.length) (hb : ks.length + 1 < scanBound) (hval : ∀ i v, Pv i v → ∃ k, ks[i]? = some k ∧ keyIs k v = true) :
    ∀ (m i : Nat) (s : Shared), n - i = m → i ≤ n → St i s → (∃ c, c ≤ i ∧ SetW w s.heap S (fun j => km j (ks.take i)) c) →
      (∀ z c, Moved (S :: wr) G s z → c ≤ n → SetW w z.heap S (fun j => km j ks) c → R (.ok (.ret .none)) z) →
      codeAny (model P w) A (.builtin "set.update.loop" ⟨[.ref S, .ref I], []⟩) R s := by
  have nSw : S ∉ wr := fun h => hSf (W.sub _ h)
  have sub : ∀ b ∈ wr, b ∈ S :: wr := fun b hb => .tail _ hb
  intro m
  induction m with
  | zero =>
    intro i s hm hi hst ⟨c, hc, hS⟩ hR
    obtain rfl : i = n := by omega
    refine codeAny_builtin F.entry_set_update_loop ?_
    rw [Around.under_plainId F.plain_set_update_loop _]
    show wpAny _ A.in1 (pyNext (.ref I) >>= _) _ _ s; refine wpAny_bind (W.done s _ _ hst fun z hz => ?_)
    show wpAny _ A.in1 (ret Value.none) _ _ z
    rw [show ks.take i = ks from List.take_of_length_le (by omega)] at hS
    exact wpAny_pure (hR z c (hz.mono sub) hc (hS.at fun o e => hz.heap S o nSw e))
  | succ m ih =>
    intro i s hm hi hst ⟨c, hc, hS⟩ hR
    have lt : i < n := by omega
    refine codeAny_builtin F.entry_set_update_loop ?_
    rw [Around.under_plainId F.plain_set_update_loop _]
    show wpAny _ A.in1 (pyNext (.ref I) >>= _) _ _ s; refine wpAny_bind (W.item i s _ _ lt hst fun v z hP hst' hz => ?_)
    obtain ⟨k, hk, hv⟩ := hval i v hP
    have hS' : SetW w z.heap S (fun j => km j (ks.take i)) c := hS.at fun o e => hz.heap S o nSw e
    show wpAny _ A.in1 (holding [v] (setAdd S v) >>= _) _ _ z
    refine wpAny_bind (wpAny_holding ?_)
    unfold setAdd
    refine wpAny_holding (wpAny_bind ((mixKind P w).pyHash (k := k) hv ?_))
    refine add_hashed (s := { z with toks := z.toks + 1 }) hv hS' (by omega) fun h' sb hS2 => ?_
    have hS3 : SetW w h' S (fun j => km j (ks.take (i + 1))) (if km k (ks.take i) = true then c else c + 1) := hS2.congr fun j => by
      rw [List.take_add_one, hk]
      unfold km
      simp
    have hc3 : (if km k (ks.take i) = true then c else c + 1) ≤ i + 1 := by split <;> omega
    refine wpAny_pure ⟨plainId_quiet F.plain_set_update_loop _, ih (i + 1) _ (by omega) lt (W.frame _ z _ _ hst' (Nat.le_succ _) fun b hb o e => ?_) ⟨_, hc3, hS3⟩ fun z2 c2 m2 h2 S2 => hR z2 c2 (Moved.trans W.gtrans ((hz.mono sub).then_heap (Nat.le_succ _) fun b o hb e => ?_) m2) h2 S2⟩
    · rw [sb.2 b fun q : b = S => hSf (q ▸ hb)]; exact e
    · rw [sb.2 b fun q : b = S => hb (q ▸ List.mem_cons_self)]; exact e
theorem call_setL {l : Addr} {items : Array Value} (ks : List Key) {Q : Value → Shared → Prop} (hh : A.handled = none) (hl : s.heap.IsList l items) (hit : KAre items.toList ks) (hb : ks.length + 1 < scanBound)
    (h : ∀ (h' : Heap) (tk c : Nat), SetW w h' s.heap.objs.size (fun j => km j ks) c → c ≤ ks.length → (∀ b o, s.heap.get? b = some o → h'.get? b = some o) → Q (.ref s.heap.objs.size) { s with heap := h', toks := tk }) :
    wpAny (model P w) A (call (.type "set") [.ref l]) Q E s := by
  have hisz : items.size = ks.length := by rw [← hit.1, Array.length_toList]
  obtain ⟨c, tl, hmro⟩ := F.called_set.mro
  have m1 := F.called_set.made; have m2 := F.called_set.sub
  refine wpAny_call (codeAny_of_tree (show wpAny _ _ (callAny (.type "set") _) _ _ _ from ?_))
  refine wpAny_pure ⟨Code.quiet_builtin _ (by decide +kernel), codeAny_builtin F.entry_type_call ?_⟩
  rw [Around.under_plain (weight_type_call_type "set" [.ref l] []) rfl]
  have m3 := F.called_set.notType; have m4 := F.called_set.canCreate; have m5 := F.typeCall_set_1 (.ref l)
  repeat (any_goals (first | assumption | wp_step))
  refine codeAny_mono (code_set_led1 (.ref l) (E := E) (Q₁ := fun obj z => obj = .ref s.heap.objs.size ∧ z = { s with heap := s.heap.push (emp w) }) ⟨rfl, rfl⟩) fun r z hr => ?_
  match r, hr with
  | .error e, hr => exact hr
  | .ok (.next), hr => exact hr.elim
  | .ok (.brk), hr => exact hr.elim
  | .ok (.cont), hr => exact hr.elim
  | .ok (.ret obj), hr =>
    obtain ⟨rfl, rfl⟩ := hr
    have hS : (s.heap.push (emp w)).get? s.heap.objs.size = some (emp w) := Heap.get?_push_size _ rfl
    have hT : Shared.TypeIs { s with heap := s.heap.push (emp w) } (.ref s.heap.objs.size) "set" := ⟨_, hS, rfl⟩
    have i1 := F.called_set.init.lookup; have i2 := F.called_set.init.bind (.ref s.heap.objs.size)
    repeat (any_goals (first | assumption | wp_step))
    refine codeAny_mono (codeAny_call_builtin (R := wants (fun r z => r = .none ∧ ∃ h' tk c, z = { s with heap := h', toks := tk } ∧ SetW w h' s.heap.objs.size (fun j => km j ks) c ∧ c ≤ ks.length ∧
        (∀ b o, s.heap.get? b = some o → h'.get? b = some o)) E) F.called_set.init.plain F.entry_set_init (check_set_init_1 hT ?_)) fun r2 z2 hr2 => ?_
    · obtain ⟨⟨ocls, odict, odata, oslots⟩, hol, hcl, nl, hdl⟩ := hl
      simp only at hcl hdl
      subst hcl; subst hdl
      have hol' : (s.heap.push (emp w)).get? l = some { cls := .type "list", dict := odict, data := .seq items nl, slots := oslots } := Heap.get?_push_of_some _ hol
      have q1 := F.sub_list_set; have q2 := F.sub_list_frozenset
      have q3 : (Value.type "list" == Value.type "dict") = false := by decide
      have hl1 : (s.heap.push (emp w)).IsList l items := ⟨_, hol', rfl, nl, rfl⟩
      unfold Builtin.«set.__init__» noKeywords Builtin.Frozenset.updateFrom
      generalize hPI : pyIter = PI
      wp_walk
      subst hPI
      refine wpAny_pyIter_list hl1 (wpAny_bind (wpAny_runValue ?_))
      have hlS : l < s.heap.objs.size := Heap.lt_size hol
      have hz1 : (s.heap.push (emp w)).objs.size = s.heap.objs.size + 1 := Heap.size_push ..
      have n1 : l ≠ (s.heap.push (emp w)).objs.size := by rw [hz1]; exact Nat.ne_of_lt (Nat.lt_succ_of_lt hlS)
      have n2 : s.heap.objs.size ∉ [(s.heap.push (emp w)).objs.size, l] := by
        rw [hz1]
        simp only [List.mem_cons, List.not_mem_nil, or_false, not_or]
        exact ⟨Nat.ne_of_lt (Nat.lt_succ_self _), Nat.ne_of_gt hlS⟩
      refine upd_loop ((Walks.list (show A.in1.in1.in1.handled = none by simp [hh]) _ l n1 items).toS) s.heap.objs.size n2 ks hisz hb (fun i v hv => hit.2 i v (by rw [Array.getElem?_toList]; exact hv)) (items.size - 0) 0 _ (by omega) (Nat.zero_le _)
        ⟨⟨_, Heap.get?_push_size _ rfl, rfl, rfl⟩, (hl1.push _)⟩ ⟨0, Nat.le_refl 0, emp_at (fun k => by simp [km]) (Heap.get?_push_of_some _ hS)⟩ fun z c' hm hc' hS' => ?_
      obtain ⟨h', g2, d2, tk2, o2⟩ := z
      obtain rfl : g2 = s.gens := hm.gens
      obtain rfl : d2 = s.drawn := hm.drawn
      obtain rfl : o2 = s.os := hm.os
      show wpAny _ _ _ _ _ _
      refine wpAny_pure ?_
      show wpAny _ _ (ret Value.none) _ _ _; refine wpAny_pure ⟨rfl, h', tk2, c', rfl, hS', hisz ▸ hc', fun b o e => ?_⟩
      have hb0 : b < s.heap.objs.size := Heap.lt_size e
      exact hm.heap b o (by
        rw [hz1]
        simp only [List.mem_cons, List.not_mem_nil, or_false, not_or]
        exact ⟨Nat.ne_of_lt hb0, Nat.ne_of_lt (Nat.lt_succ_of_lt hb0)⟩) (Heap.get?_push_of_some _ (Heap.get?_push_of_some _ e))
    · match r2, hr2 with
      | .error e, hr2 => exact hr2
      | .ok (.next), hr2 => exact hr2.elim
      | .ok (.brk), hr2 => exact hr2.elim
      | .ok (.cont), hr2 => exact hr2.elim
      | .ok (.ret r), hr2 =>
        obtain ⟨rfl, h', tk, c', rfl, a1, a2, a3⟩ := hr2
        repeat (any_goals (first | assumption | wp_step))
        exact h _ _ _ a1 a2 a3
theorem call_setT {l : Addr} {items : Array Value} (ks : List Key) {Q : Value → Shared → Prop} (hh : A.handled = none) (hl : s.heap.IsTuple l items) (hit : KAre items.toList ks) (hb : ks.length + 1 < scanBound)
    (h : ∀ (h' : Heap) (tk c : Nat), SetW w h' s.heap.objs.size (fun j => km j ks) c → c ≤ ks.length → (∀ b o, s.heap.get? b = some o → h'.get? b = some o) → Q (.ref s.heap.objs.size) { s with heap := h', toks := tk }) :
    wpAny (model P w) A (call (.type "set") [.ref l]) Q E s := by
  have hisz : items.size = ks.length := by rw [← hit.1, Array.length_toList]
  obtain ⟨c, tl, hmro⟩ := F.called_set.mro
  have m1 := F.called_set.made; have m2 := F.called_set.sub
  refine wpAny_call (codeAny_of_tree (show wpAny _ _ (callAny (.type "set") _) _ _ _ from ?_))
  refine wpAny_pure ⟨Code.quiet_builtin _ (by decide +kernel), codeAny_builtin F.entry_type_call ?_⟩
  rw [Around.under_plain (weight_type_call_type "set" [.ref l] []) rfl]
  have m3 := F.called_set.notType; have m4 := F.called_set.canCreate; have m5 := F.typeCall_set_1 (.ref l)
  repeat (any_goals (first | assumption | wp_step))
  refine codeAny_mono (code_set_led1 (.ref l) (E := E) (Q₁ := fun obj z => obj = .ref s.heap.objs.size ∧ z = { s with heap := s.heap.push (emp w) }) ⟨rfl, rfl⟩) fun r z hr => ?_
  match r, hr with
  | .error e, hr => exact hr
  | .ok (.next), hr => exact hr.elim
  | .ok (.brk), hr => exact hr.elim
  | .ok (.cont), hr => exact hr.elim
  | .ok (.ret obj), hr =>
    obtain ⟨rfl, rfl⟩ := hr
    have hS : (s.heap.push (emp w)).get? s.heap.objs.size = some (emp w) := Heap.get?_push_size _ rfl
    have hT : Shared.TypeIs { s with heap := s.heap.push (emp w) } (.ref s.heap.objs.size) "set" := ⟨_, hS, rfl⟩
    have i1 := F.called_set.init.lookup; have i2 := F.called_set.init.bind (.ref s.heap.objs.size)
    repeat (any_goals (first | assumption | wp_step))
    refine codeAny_mono (codeAny_call_builtin (R := wants (fun r z => r = .none ∧ ∃ h' tk c, z = { s with heap := h', toks := tk } ∧ SetW w h' s.heap.objs.size (fun j => km j ks) c ∧ c ≤ ks.length ∧
        (∀ b o, s.heap.get? b = some o → h'.get? b = some o)) E) F.called_set.init.plain F.entry_set_init (check_set_init_1 hT ?_)) fun r2 z2 hr2 => ?_
    · obtain ⟨⟨ocls, odict, odata, oslots⟩, hol, hcl, nl, hdl⟩ := hl
      simp only at hcl hdl
      subst hcl; subst hdl
      have hol' : (s.heap.push (emp w)).get? l = some { cls := .type "tuple", dict := odict, data := .seq items nl, slots := oslots } := Heap.get?_push_of_some _ hol
      have q1 := F.sub_tuple_set; have q2 := F.sub_tuple_frozenset
      have q3 : (Value.type "tuple" == Value.type "dict") = false := by decide
      have hl1 : (s.heap.push (emp w)).IsTuple l items := ⟨_, hol', rfl, nl, rfl⟩
      unfold Builtin.«set.__init__» noKeywords Builtin.Frozenset.updateFrom
      generalize hPI : pyIter = PI
      wp_walk
      subst hPI
      refine wpAny_pyIter_tuple hl1 (wpAny_bind (wpAny_runValue ?_))
      have hlS : l < s.heap.objs.size := Heap.lt_size hol
      have hz1 : (s.heap.push (emp w)).objs.size = s.heap.objs.size + 1 := Heap.size_push ..
      have n1 : l ≠ (s.heap.push (emp w)).objs.size := by rw [hz1]; exact Nat.ne_of_lt (Nat.lt_succ_of_lt hlS)
      have n2 : s.heap.objs.size ∉ [(s.heap.push (emp w)).objs.size, l] := by
        rw [hz1]
        simp only [List.mem_cons, List.not_mem_nil, or_false, not_or]
        exact ⟨Nat.ne_of_lt (Nat.lt_succ_self _), Nat.ne_of_gt hlS⟩
      refine upd_loop ((Walks.tuple (show A.in1.in1.in1.handled = none by simp [hh]) _ l n1 items).toS) s.heap.objs.size n2 ks hisz hb (fun i v hv => hit.2 i v (by rw [Array.getElem?_toList]; exact hv)) (items.size - 0) 0 _ (by omega) (Nat.zero_le _)
        ⟨⟨_, Heap.get?_push_size _ rfl, rfl, rfl⟩, (hl1.push _)⟩ ⟨0, Nat.le_refl 0, emp_at (fun k => by simp [km]) (Heap.get?_push_of_some _ hS)⟩ fun z c' hm hc' hS' => ?_
      obtain ⟨h', g2, d2, tk2, o2⟩ := z
      obtain rfl : g2 = s.gens := hm.gens
      obtain rfl : d2 = s.drawn := hm.drawn
      obtain rfl : o2 = s.os := hm.os
      show wpAny _ _ _ _ _ _
      refine wpAny_pure ?_
      show wpAny _ _ (ret Value.none) _ _ _; refine wpAny_pure ⟨rfl, h', tk2, c', rfl, hS', hisz ▸ hc', fun b o e => ?_⟩
      have hb0 : b < s.heap.objs.size := Heap.lt_size e
      exact hm.heap b o (by
        rw [hz1]
        simp only [List.mem_cons, List.not_mem_nil, or_false, not_or]
        exact ⟨Nat.ne_of_lt hb0, Nat.ne_of_lt (Nat.lt_succ_of_lt hb0)⟩) (Heap.get?_push_of_some _ (Heap.get?_push_of_some _ e))
    · match r2, hr2 with
      | .error e, hr2 => exact hr2
      | .ok (.next), hr2 => exact hr2.elim
      | .ok (.brk), hr2 => exact hr2.elim
      | .ok (.cont), hr2 => exact hr2.elim
      | .ok (.ret r), hr2 =>
        obtain ⟨rfl, h', tk, c', rfl, a1, a2, a3⟩ := hr2
        repeat (any_goals (first | assumption | wp_step))
        exact h _ _ _ a1 a2 a3
end
end DS
namespace DS
open PySem PySem.Spec PyProof.Rows L2 DL
def Asc (l : List Str) : Prop := l.Pairwise fun a b => a.cps.toList < b.cps.toList
theorem str_eq {a b : Str} (h : a.cps.toList = b.cps.toList) : a = b := by
  cases a; cases b
  congr
  exact Array.toList_inj.mp h
theorem nlt_total {a b : List Nat} (h1 : ¬ a < b) (h2 : ¬ b < a) : a = b := List.le_antisymm (List.not_lt.mp h2) (List.not_lt.mp h1)
theorem asc_of : ∀ {l : List Str}, sortedS l = true → l.Nodup → Asc l := by
  have key : ∀ (l : List Str) (p : Str), risingS p l = true → (p :: l).Nodup → Asc (p :: l) := by
    intro l
    induction l with
    | nil => intro p _ _; exact List.pairwise_singleton _ _
    | cons x r ih =>
      intro p h d
      unfold risingS at h
      rw [Bool.and_eq_true, Bool.not_eq_true', ltCps_eq] at h
      obtain ⟨d1, d2⟩ := List.nodup_cons.mp d
      have i := ih x h.2 d2
      have lt : p.cps.toList < x.cps.toList := by
        by_cases q : p.cps.toList < x.cps.toList
        · exact q
        · exact absurd (str_eq (nlt_total q (of_decide_eq_false h.1))) fun e => d1 (e ▸ List.mem_cons_self)
      refine List.pairwise_cons.mpr ⟨fun y hy => ?_, i⟩
      rcases List.mem_cons.mp hy with rfl | hy
      · exact lt
      · exact List.lt_trans lt ((List.pairwise_cons.mp i).1 y hy)
  intro l h d
  cases l with
  | nil => exact List.Pairwise.nil
  | cons p r => exact key r p h d
theorem asc_ext : ∀ {l m : List Str}, Asc l → Asc m → (∀ x, x ∈ l ↔ x ∈ m) → l = m
  | [], [], _, _, _ => rfl
  | [], y :: m, _, _, h => absurd ((h y).2 List.mem_cons_self) (by simp)
  | x :: l, [], _, _, h => absurd ((h x).1 List.mem_cons_self) (by simp)
  | x :: l, y :: m, hl, hm, h => by
    obtain ⟨a1, a2⟩ := List.pairwise_cons.mp hl
    obtain ⟨b1, b2⟩ := List.pairwise_cons.mp hm
    have e : x = y := by
      rcases List.mem_cons.mp ((h x).1 List.mem_cons_self) with e | e
      · exact e
      rcases List.mem_cons.mp ((h y).2 List.mem_cons_self) with e2 | e2
      · exact e2.symm
      exact absurd (List.lt_trans (b1 x e) (a1 y e2)) (List.lt_irrefl _)
    subst e
    congr 1
    refine asc_ext a2 b2 fun z => ⟨fun q => ?_, fun q => ?_⟩
    · rcases List.mem_cons.mp ((h z).1 (.tail _ q)) with e | e
      · exact absurd (a1 z q) (e ▸ List.lt_irrefl _)
      · exact e
    · rcases List.mem_cons.mp ((h z).2 (.tail _ q)) with e | e
      · exact absurd (b1 z q) (e ▸ List.lt_irrefl _)
      · exact e
def insU (x : Str) : List Str → List Str
  | [] => [x]
  | y :: r => if strLt x y = true then x :: y :: r else if x = y then y :: r else y :: insU x r
def sortU (l : List Str) : List Str := l.foldr insU []
theorem strLt_iff {x y : Str} : strLt x y = true ↔ x.cps.toList < y.cps.toList := by
  exact decide_eq_true_iff
theorem mem_insU {x z : Str} : ∀ {l : List Str}, z ∈ insU x l ↔ z = x ∨ z ∈ l
  | [] => by simp [insU]
  | y :: r => by
    unfold insU
    split
    · simp
    split
    · rename_i h; subst h; simp
    · rw [List.mem_cons, mem_insU, List.mem_cons]
      exact ⟨fun h => h.elim (fun e => .inr (.inl e)) fun h => h.elim .inl fun h => .inr (.inr h), fun h => h.elim (fun e => .inr (.inl e)) fun h => h.elim .inl fun h => .inr (.inr h)⟩
theorem asc_insU {x : Str} : ∀ {l : List Str}, Asc l → Asc (insU x l)
  | [], _ => List.pairwise_singleton _ _
  | y :: r, h => by
    obtain ⟨a1, a2⟩ := List.pairwise_cons.mp h
    unfold insU
    split
    · rename_i q
      have q := strLt_iff.mp q
      exact List.pairwise_cons.mpr ⟨fun z hz => (List.mem_cons.mp hz).elim (fun e => e ▸ q) fun hz => List.lt_trans q (a1 z hz), h⟩
    split
    · exact h
    · rename_i q1 q2
      refine List.pairwise_cons.mpr ⟨fun z hz => ?_, asc_insU a2⟩
      rcases mem_insU.mp hz with e | e
      · subst e
        by_cases q : y.cps.toList < z.cps.toList
        · exact q
        · exact absurd (str_eq (nlt_total (fun e => q1 (strLt_iff.mpr e)) q)) q2
      · exact a1 z e
theorem mem_sortU {z : Str} : ∀ {l : List Str}, z ∈ sortU l ↔ z ∈ l
  | [] => by simp [sortU]
  | x :: l => by
    show z ∈ insU x (sortU l) ↔ _
    rw [mem_insU, mem_sortU, List.mem_cons]
theorem asc_sortU : ∀ (l : List Str), Asc (sortU l)
  | [] => List.Pairwise.nil
  | x :: l => asc_insU (asc_sortU l)
theorem sortU_of {l m : List Str} (h : Asc m) (k : ∀ x, x ∈ m ↔ x ∈ l) : m = sortU l := asc_ext h (asc_sortU l) fun x => (k x).trans mem_sortU.symm
section
variable {P : Program} {w : World} {A : Around} {E : Value → Shared → Prop} {s : Shared} {a : Addr}
def txOf : Value → Str
  | .str x _ => x
  | _ => Str.empty
theorem tx_of {v : Value} {x : Str} (h : keyIs (.inr x) v = true) : ∃ t, v = .str x t := by
  rcases keyIs_shape h with ⟨i, t, e, _⟩ | ⟨y, t, e, q⟩
  · cases e
  · cases e; exact ⟨t, q⟩
theorem sorted_setW {S : Key → Bool} {n : Nat} {Q : Value → Shared → Prop} (R : SetW w s.heap a S n) (hh : A.handled = none) (hn : n ≤ 16777216) (hS : ∀ k, S k = true → ∃ x, k = .inr x)
    (hQ : ∀ z p (out : Array Value) (c : Nat) (ys : List Str), (∀ b o, s.heap.get? b = some o → z.heap.get? b = some o) → z.gens = s.gens → z.os = s.os → s.heap.objs.size ≤ p →
      z.heap.get? p = some (seqObj "list" out c) → StrsAre out.toList ys → Asc ys → (∀ x, x ∈ ys ↔ S (.inr x) = true) → ys.length = n → Q (.ref p) z) :
    wpAny (model P w) A (call (.builtin "sorted") [.ref a]) Q E s := by
  obtain ⟨o, es, ep, t, ho, ⟨hex, hd⟩, ⟨g, nd, hm⟩, ⟨hb, hf, hz⟩, hr, hl⟩ := R
  refine Calls.call_function_entry kind_sorted plain_sorted entry_sorted (args_sorted1 _) ?_
  unfold Builtin.«sorted»
  refine wpAny_bind (m := checkCount "sorted" 1 1 _) (wpAny_pure (wpAny_bind (collect_set (A := A.in1) hh ⟨o, ho, hex.1, hd⟩ hf hb hr hl fun s1 vs k1 z1 g1 o1 pm => ?_)))
  have hvl : vs.length = n := by rw [pm.length_eq, List.length_map, Array.length_toList]; exact hz
  have all : ∀ e ∈ es.toList, eK e = .inr (txOf e.2) ∧ ∃ t, e.2 = .str (txOf e.2) t := fun e he => by
    obtain ⟨x, hx⟩ := hS (eK e) ((hm _).2 (List.mem_map_of_mem he))
    have q := (g e he).1
    rw [hx] at q
    obtain ⟨t, ht⟩ := tx_of q
    refine ⟨?_, t, ?_⟩
    · rw [hx, ht]; rfl
    · rw [ht]; rfl
  have hI : StrsAre vs (vs.map strOf) := strsAre_map vs fun v hv => by
    obtain ⟨e, he, q⟩ := List.mem_map.mp (pm.mem_iff.mp hv)
    obtain ⟨_, t, ht⟩ := all e he
    exact ⟨_, t, q ▸ ht⟩
  have pk : ((vs.map strOf).map Sum.inr).Perm (es.toList.map eK) := by
    have q := (pm.map strOf).map (Sum.inr : Str → Key)
    rw [List.map_map, List.map_map] at q
    refine (by simpa using q : ((vs.map strOf).map Sum.inr).Perm _).trans (.of_eq ?_)
    refine List.map_congr_left fun e he => ?_
    obtain ⟨h1, t, ht⟩ := all e he
    rw [h1]
    show (Sum.inr (strOf e.2) : Key) = _
    rw [ht]; rfl
  refine wpAny_bind (wpAny_newList ?_ (by rw [hvl, sizeLine_eq]; omega))
  have hoL : (s1.heap.push (seqObj "list" vs.toArray 0)).get? s1.heap.objs.size = some (seqObj "list" vs.toArray 0) := Heap.get?_push_size _ rfl
  refine wpAny_bind (wpAny_holding (wpAny_call_entry slot_list_sort ⟨_, hoL, rfl⟩ entry_list_sort (list_sort_treeKAny strKind_oneLt hoL hI.keysOf (fun v₁ v₂ rest e => keyKind_strs (by rw [← e]; exact hI)) (by rw [hvl, sizeLine_eq]; exact hn) fun st' hp hs => ?_) (args_list_sort _)))
  obtain ⟨ys, a1, a2, a3⟩ := sorted_out_str hI hp hs
  obtain ⟨c, hc⟩ := sortedHeap_at (vs := vs) (out := (arrOf st').map (·.2)) hoL
  have pn : (ys.map Sum.inr).Perm (es.toList.map eK) := (a2.map _).trans pk
  have nd2 : ys.Nodup := (pn.nodup_iff.mpr nd).of_map _ fun _ _ h e => h (congrArg Sum.inr e)
  refine ⟨_, rfl, wpAny_pure ⟨_, rfl, hQ _ s1.heap.objs.size ((arrOf st').map (·.2)) c ys (fun b u e => ?_) g1 o1 z1 hc a1 (asc_of a3 nd2) (fun x => ?_) ?_⟩⟩
  · have q := k1 b u e
    have lt := Heap.lt_size q
    show (sortedHeap (s1.heap.push (seqObj "list" vs.toArray 0)) s1.heap.objs.size vs ((arrOf st').map (·.2))).get? b = some u
    rw [sortedHeap_old (Nat.ne_of_lt lt) (by rw [size_push']; exact Nat.lt_succ_of_lt lt)]
    exact Heap.get?_push_of_some _ q
  · rw [hm (.inr x), ← pn.mem_iff, List.mem_map]
    exact ⟨fun h => ⟨x, h, rfl⟩, fun ⟨y, hy, e⟩ => by cases e; exact hy⟩
  · have q := pn.length_eq
    simp only [List.length_map, Array.length_toList] at q
    exact q.trans hz
end
end DS
namespace DS
open PySem PySem.Spec PyProof.Rows L2 DL
def SWO (w : World) (a : Addr) (S : Key → Bool) (n : Nat) : HO := .ext fun h => SetW w h a S n
section
variable {X : Cx}
theorem swo_new {w : World} {P : Program} {H : Hp} {h : Heap} {a : Addr} {S : Key → Bool} {n : Nat} (R : SetW w h a S n) : ObjOk P w H h a (SWO w a S n) :=
  have ⟨o, _, _, _, ho, _⟩ := R
  ⟨R, ⟨o, ho⟩, fun h1 h2 p k => SetW.at p k⟩
theorem swo_get {pins : List (Addr × Obj)} {σ : L2.St} {H : Hp} {s : Shared} {a : Addr} {S : Key → Bool} {n : Nat} (I : Inv X pins σ H s) (ha : H a = some (SWO X.w a S n)) : SetW X.w s.heap a S n := (I.hok a _ ha).1
theorem kare_of {us : List Value} {ks : List Key} (r : Vals (ks.map kV) us) : KAre us ks := by
  refine ⟨by rw [← r.length, List.length_map], fun i u h => ?_⟩
  have hl : i < ks.length := by
    have := (List.getElem?_eq_some_iff.mp h).1
    rw [← r.length, List.length_map] at this
    exact this
  refine ⟨ks[i], List.getElem?_eq_getElem hl, ?_⟩
  obtain ⟨v, e, q⟩ := Vals.get (x := kV ks[i]) r (by rw [List.getElem?_map, List.getElem?_eq_getElem hl]; rfl)
  rw [h] at e; cases e
  cases hk : ks[i] with
  | inl j => rw [hk] at q; obtain ⟨t, rfl⟩ := q; exact keyIs_int j t
  | inr x => rw [hk] at q; obtain ⟨t, rfl⟩ := q; exact keyIs_str x t
def rSetW (K : PySem.W.Frag) (w : World) : List V → Hp → VK → Prop := fun xs H Q => ∃ (l : Addr) (ks : List Key), xs = [V.ref l] ∧ (SqL K H l (ks.map kV) ∨ SqT K H l (ks.map kV)) ∧ ks.length + 1 < scanBound ∧
  ∀ p c, H p = none → c ≤ ks.length → Q (.ref p) (upd H p (SWO w p (fun k => km k ks) c))
theorem cr_setW (hc : X.calm = true) : CallR X (.type "set") (rSetW X.K X.w) := by
  intro pins s σ H xs us Q I r h
  obtain ⟨l, ks, rfl, hl, hb, q⟩ := h
  rw [Vals.ref1 r]
  have fin : ∀ (h' : Heap) (tk c : Nat), SetW X.w h' s.heap.objs.size (fun j => km j ks) c → c ≤ ks.length → (∀ b o, s.heap.get? b = some o → h'.get? b = some o) → EP X pins σ Q (.ref s.heap.objs.size) { s with heap := h', toks := tk } := fun h' tk c R hc k =>
    ⟨.ref s.heap.objs.size, upd H s.heap.objs.size (SWO X.w s.heap.objs.size (fun j => km j ks) c), I.laid (t' := tk) k (Nat.le_refl _) (swo_new R), rfl, q _ c (I.hok.fresh (Nat.le_refl _)) hc⟩
  rcases hl with hl | hl
  · obtain ⟨its, rv, pl, hz⟩ := I.list hl
    exact call_setL (P := X.prog) ks (I.ok.hd hc) pl.isList (by simpa using kare_of rv) hb fin
  · obtain ⟨its, rv, pl, hz⟩ := I.tuple hl
    exact call_setT (P := X.prog) ks (I.ok.hd hc) (show s.heap.IsTuple l its.toArray from pl) (by simpa using kare_of rv) hb fin
def rSortW (w : World) : List V → Hp → VK → Prop := fun vs H Q => ∃ (a : Addr) (S : Key → Bool) (n : Nat), vs = [V.ref a] ∧ H a = some (SWO w a S n) ∧ n ≤ 16777216 ∧ (∀ k, S k = true → ∃ x, k = .inr x) ∧
  ∀ (ys : List Str) (p : Addr), Asc ys → (∀ x, x ∈ ys ↔ S (.inr x) = true) → ys.length = n → H p = none → Q (.ref p) (upd H p (.lst (ys.map V.str)))
theorem cr_sortW (hc : X.calm = true) : CallR X (.builtin "sorted") (rSortW X.w) := by
  intro pins s σ H vs us Q I r h
  obtain ⟨a, S, n, rfl, ha, h64, hS, q⟩ := h
  rw [Vals.ref1 r]
  refine sorted_setW (P := X.prog) (swo_get I ha) (I.ok.hd hc) h64 hS fun z p out c ys k g o hp hg hi hs hm hl => ?_
  have hlen : (ys.map V.str).length ≤ sizeLine := by rw [List.length_map, hl, sizeLine_eq]; exact h64
  have hn : H p = none := I.hok.fresh hp
  have J : Inv X pins σ (upd H p (.lst (ys.map V.str))) { s with heap := z.heap, gens := z.gens, drawn := z.drawn, toks := z.toks } :=
    I.call (ch := []) (Un.laid k hp hn) (I.hok.laid k hp ⟨hlen, out.toList, c, vals_of_strs hi, hg⟩) (by rw [g]; exact I.bare) fun _ z => nomatch z
  have e : z = { s with heap := z.heap, gens := z.gens, drawn := z.drawn, toks := z.toks } := by
    cases z; cases s; cases o; rfl
  rw [e]
  exact ⟨.ref p, _, J, rfl, q ys p hs hm hl hn⟩
end
end DS
namespace DL
open PySem PySem.Spec PyProof.Rows L2
def sortSetD (a : EV) : Rz EV := match a.d with
  | .lst ds => orStuck (strsD ds) >>= fun ys => if ys.length < 4000 then .ok (.ow true (.lst ((DS.sortU ys).map .str))) else .stuck
  | .tup ds => orStuck (strsD ds) >>= fun ys => if ys.length < 4000 then .ok (.ow true (.lst ((DS.sortU ys).map .str))) else .stuck
  | _ => .stuck
def mSortSet (m : Env → Rz EV) : Env → Rz EV := fun env => m env >>= sortSetD
theorem sortSet_inv {ds : List D} {ev : EV} (h : (orStuck (strsD ds) >>= fun ys => if ys.length < 4000 then (Rz.ok (EV.ow true (.lst ((DS.sortU ys).map .str)))) else .stuck) = .ok ev) : ∃ ys : List Str, ds = ys.map D.str ∧ ys.length < 4000 ∧ ev = .ow true (.lst ((DS.sortU ys).map .str)) := by
  cases q : strsD ds with
  | none => rw [q] at h; cases h
  | some ys =>
    rw [q] at h
    simp only [orStuck_some, Rz.ok_bind] at h
    by_cases z : ys.length < 4000
    · rw [if_pos z] at h; cases h; exact ⟨ys, strsD_ok q, z, rfl⟩
    · rw [if_neg z] at h; cases h
theorem sortSet_exc {a : EV} {e : Exn} : sortSetD a ≠ .exc e := by
  unfold sortSetD
  intro h
  have key : ∀ ds : List D, (orStuck (strsD ds) >>= fun ys => if ys.length < 4000 then (Rz.ok (EV.ow true (.lst ((DS.sortU ys).map .str)))) else .stuck) ≠ .exc e := fun ds h => by
    cases q : strsD ds with
    | none => rw [q] at h; cases h
    | some ys =>
      rw [q] at h
      simp only [orStuck_some, Rz.ok_bind] at h
      split at h <;> cases h
  split at h
  · exact key _ h
  · exact key _ h
  · cases h
section
variable {X : Cx} {C : CT} {W : WX}
theorem sortSet_of {K : KC} {H : Hp} {v : V} {a : EV} {ev : EV} (r : Rep K H v a.d) (h : sortSetD a = .ok ev) : ∃ l, ∃ ys : List Str, v = .ref l ∧ (SqL K.K H l ((ys.map (Sum.inr : Str → Key)).map kV) ∨ SqT K.K H l ((ys.map (Sum.inr : Str → Key)).map kV)) ∧ ys.length < 4000 ∧ ev = .ow true (.lst ((DS.sortU ys).map .str)) := by
  unfold sortSetD at h
  split at h
  · rename_i ds e
    obtain ⟨ys, rfl, h1, h2⟩ := sortSet_inv h
    rw [e] at r
    cases r with
    | lst s rs => exact ⟨_, ys, rfl, .inl (by rw [List.map_map, show kV ∘ Sum.inr = V.str from rfl, ← Reps.of_strs rs]; exact .of s), h1, h2⟩
  · rename_i ds e
    obtain ⟨ys, rfl, h1, h2⟩ := sortSet_inv h
    rw [e] at r
    cases r with
    | tup s rs => exact ⟨_, ys, rfl, .inr (by rw [List.map_map, show kV ∘ Sum.inr = V.str from rfl, ← Reps.of_strs rs]; exact .of s), h1, h2⟩
  · cases h
theorem de_sortSet {e : Expr} {m : Env → Rz EV} {p p2 pos pos2 : Pos} (h : DE X C W e m) (hc : X.calm = true := by rfl) (hm : X.mg "sorted" = none) (hm2 : X.mg "set" = none) (hg : Gl X "sorted" := by rfl) (hg2 : Gl X "set" := by rfl)
    (h1 : starEach [.Call (.Name "set" p2) [e] [] pos2] X.env = [(false, eval (.Call (.Name "set" p2) [e] [] pos2) X.env)] := by rfl) (h2 : starEach [e] X.env = [(false, eval e X.env)] := by rfl) :
    DE X C W (.Call (.Name "sorted" p) [.Call (.Name "set" p2) [e] [] pos2] [] pos) (mSortSet m) :=
  ⟨PE.imp (pe_callB (DS.cr_sortW hc) hg hm (by rfl) (pa_cons (pe_callTy (DS.cr_setW hc) hg2 hm2 (by rfl) (pa_cons h.pe pa_nil h2) (by decide) (by decide) h2 (by rfl)) pa_nil h1) (by decide) (by decide) h1 (by rfl)) fun σ H Q ⟨Z, G, env, er, q⟩ => by
    unfold mSortSet at q
    refine ⟨Z, G, env, er, ?_⟩
    cases ha : m env with
    | stuck => rw [ha] at q; exact q.elim
    | exc e => rw [ha] at q; exact q
    | ok a =>
      rw [ha] at q
      simp only [Rz.ok_bind] at q
      intro v G1 H1 x1 va
      cases hs : sortSetD a with
      | stuck => rw [hs] at q; exact q.elim
      | exc e => exact absurd hs sortSet_exc
      | ok ev =>
        rw [hs] at q
        obtain ⟨l, ys, rfl, hl, hn, rfl⟩ := sortSet_of (va.rep x1.s) hs
        refine ⟨l, ys.map Sum.inr, rfl, hl, by rw [List.length_map]; show _ < 4096; omega, fun p c hp hcn => ?_⟩
        rw [List.length_map] at hcn
        refine ⟨p, _, c, rfl, upd_same, by omega, fun k hk => ?_, fun zs p2 h1 h2 h3 hp2 => ?_⟩
        · obtain ⟨x, _, e⟩ := List.mem_map.mp (DS.km_iff.mp hk)
          exact ⟨x, e.symm⟩
        · have e : zs = DS.sortU ys := DS.sortU_of h1 fun x => by
            rw [h2 x, DS.km_iff, List.mem_map]
            exact ⟨fun ⟨y, hy, e⟩ => by cases e; exact hy, fun h => ⟨x, h, rfl⟩⟩
          subst e
          have y1 : Ext G1 H1 G1 (upd H1 p (DS.SWO X.w p (fun k => DS.km k (ys.map Sum.inr)) c)) := .lay x1.s hp
          have y2 := y1.trans (Ext.lay (o := .lst ((DS.sortU ys).map V.str)) y1.s hp2)
          exact q (.ref p2) _ _ (x1.trans y2) ⟨p2, rfl, ⟨_, upd_same, Reps.strs _⟩, y1.s.none hp2, (er.zh.trans (x1.h.trans y1.h)).none hp2, fun _ => (x1.h.trans y1.h).none hp2⟩⟩
end
end DL
namespace DL
open PySem PySem.Spec PyProof.Rows L2
def crB (K : PySem.W.Frag) (C : Addr) : Bool := PySem.W.readsIn K C (.type "type") && He.eqO (PySem.W.specialIn K (.ref C) "__getattribute__") (some (some (.builtin "type.__getattribute__")))
theorem crB_ok {K : PySem.W.Frag} {C : Addr} (h : crB K C = true) : ClX.CRead K C (.type "type") := ⟨(He.ba h).1, He.eqO_ok (He.ba h).2⟩
def cmA (K : PySem.W.Frag) (C : Addr) (m : Str) : Addr := rcA K C m "classmethod" 0
def cmB (K : PySem.W.Frag) (C : Addr) (m : Str) : Bool := (match PySem.W.findCls K (.ref C) (.type "type") m with
    | some (.get g p ob tp) => decide (g = .builtin "classmethod.__get__" ∧ p = .ref (He.ma K C m) ∧ ob = .none ∧ tp = .ref C)
    | _ => false) && ((match PySem.W.recIn K (He.ma K C m) "classmethod" with
    | some (.ref _ :: _) => true
    | _ => false) && PySem.W.fnIn K (cmA K C m))
def CCon (K : PySem.W.Frag) (mg : Str → Option Value) (x f : Str) (d : D) : Prop := ∃ Ca v u, mg x = some (.ref Ca) ∧ ClX.CRead K Ca (.type "type") ∧ ClX.CVal K Ca (.type "type") f v u ∧ ∀ (C : CT) G, Rep ⟨K, C⟩ G v d
def cvS (K : PySem.W.Frag) (C : Addr) (f z : Str) : Bool := crB K C && (match PySem.W.findCls K (.ref C) (.type "type") f with
  | some (.val (.str y _)) => decide (y = z)
  | _ => false)
theorem cvS_ok {K : PySem.W.Frag} {mg : Str → Option Value} {x f z : Str} {C : Addr} (hm : mg x = some (.ref C)) (h : cvS K C f z = true) : CCon K mg x f (.str z) := by
  obtain ⟨h1, h2⟩ := He.ba h
  split at h2
  · rename_i y t e
    obtain rfl := of_decide_eq_true h2
    exact ⟨C, .str y, _, hm, crB_ok h1, ⟨e, t, rfl⟩, fun _ _ => .str y⟩
  · cases h2
section
variable {X : Cx} {C : CT} {W : WX}
theorem de_cval {x f : Str} {d : D} {p pos : Pos} (h : CCon X.K X.mg x f d) (hg : Gl X x := by rfl) (hdb : (x == ("__debug__" : Str)) = false := by decide) (hb : attributeBase (.Name x p) f X.env (eval (.Name x p) X.env) = eval (.Name x p) X.env := by rfl) :
    DE X C W (.Attribute (.Name x p) f pos) (mC d) := by
  obtain ⟨Ca, v, u, hm, r, k, rep⟩ := h
  refine ⟨⟨fun pins s σ H Q I ⟨Z, G, env, er, q⟩ => attr_of hb (ld_glob I hg hm (ClX.getcval_ok I r k fun s2 I2 => ⟨v, H, I2, k.rel, q v G H (.refl er.sub) (rep C G)⟩) hdb)⟩⟩
end
def spSt (K : KC) (n : Nat) (F : Fn) : Sp := fun vs H Q E => ∃ G ds es, Sub G H ∧ Reps K G vs (ds ++ es) ∧ ds.length = n ∧ es.length ≤ sizeLine ∧ match F (ds ++ [.tup es]) with
  | .ok ev => ∀ v G' H', Ext G H G' H' → EVok K ⟨G, H⟩ H G' H' v ev → Q v H'
  | .exc e => ∀ cls d G' H', Ext G H G' H' → ExcOk K G' H' cls d e → E cls d H'
  | .stuck => False
section
variable {P : Program} {w : World} {mg : Str → Option Value} {base : Heap}
def CmG (P : Program) (w : World) (K : KC) (mg : Str → Option Value) (base : Heap) (k : Nat) (x m : Str) (n : Nat) (st : Bool) (F : Fn) : Prop :=
  ∃ Ca, mg x = some (.ref Ca) ∧ K.C.cls x = some Ca ∧ crB K.K Ca = true ∧ cmB K.K Ca m = true ∧ FnR P w K.K mg base (L2.CX P w) k (cmA K.K Ca m) (if st = true then spSt K (n + 1) F else spD K (n + 1) F)
theorem CmG.cx {K : PySem.W.Frag} {C C' : CT} {k n : Nat} {x m : Str} {st : Bool} {F : Fn} (h2 : C.cls = C'.cls) (h3 : C.slf = none) (h : CmG P w ⟨K, C⟩ mg base k x m n st F) : CmG P w ⟨K, C'⟩ mg base k x m n st F := by
  obtain ⟨Ca, f1, f2, f3, f4, f5⟩ := h
  refine ⟨Ca, f1, h2 ▸ f2, f3, f4, f5.imp fun vs H Q E z => ?_⟩
  cases st with
  | false => exact spD_cx (K := ⟨K, C⟩) (K' := ⟨K, C'⟩) rfl h2 h3 z
  | true =>
    obtain ⟨G, ds, es, s, r, hn, hz, q⟩ := z
    refine ⟨G, ds, es, s, Reps.cx (K := ⟨K, C'⟩) (K' := ⟨K, C⟩) rfl h2.symm r, hn, hz, ?_⟩
    cases hF : F (ds ++ [.tup es]) with
    | stuck => rw [hF] at q; exact q
    | ok ev => rw [hF] at q; exact fun v G' H' x k => q v G' H' x (EVok.cx (K := ⟨K, C⟩) (K' := ⟨K, C'⟩) rfl h2 (fun p e => by rw [show (C.slf) = none from h3] at e; cases e) k)
    | exc e => rw [hF] at q; exact fun cls d G' H' x k => q cls d G' H' x (ExcOk.cx (K := ⟨K, C⟩) (K' := ⟨K, C'⟩) rfl h2 k)
end
section
variable {X : Cx} {C : CT} {W : WX}
theorem pe_makeS0 {Cc f : Addr} {k : Nat} {fd : FuncData} {ps : List Str} {sp : Sp} {x : Str} {p pos : Pos} (M : Mk X.K Cc f) (FO : FnOk X.prog X.w X.K X.mg X.base (L2.CX X.prog X.w) k f fd ps sp)
    (hr : Room (k + 1) X.A) (hb : Binds X.K fd ps []) (tk : Takes X W) (hg : Gl X x) (hm : X.mg x = some (.ref Cc)) (hdb : (x == ("__debug__" : Str)) = false) : PE X (.Call (.Name x p) [] [] pos) (tMakeS Cc sp W tNil) := ⟨fun pins s σ H Q I h =>
  wpAny_Call_Name_kw (ld_glob I hg hm (PySem.W.callWith_K0 I.kIn M.kp (make_at M FO hr hb tk I .nil h)) hdb)⟩
end
end DL
namespace DL
open PySem PySem.Spec PyProof.Rows L2
def clsOf (l : List Str) (K : PySem.W.Frag) : Str → Option Addr := fun x => if x ∈ l then some (He.ga K x) else none
theorem clsOf_in {l : List Str} {K : PySem.W.Frag} {x : Str} (h : x ∈ l) : clsOf l K x = some (He.ga K x) := if_pos h
theorem clsOf_inv {l : List Str} {K : PySem.W.Frag} {x : Str} {a : Addr} (h : clsOf l K x = some a) : x ∈ l ∧ a = He.ga K x := by
  unfold clsOf at h
  split at h
  · rename_i q; cases h; exact ⟨q, rfl⟩
  · cases h
def CC (l : List Str) (K : PySem.W.Frag) : CT := ⟨clsOf l K, none, none, none⟩
theorem fldOk_of {l cs : List Str} {K : PySem.W.Frag} {C : CT} {f : Str} (hC : C.cls = clsOf l K) (h : ∀ c ∈ cs, Cls K (He.ga K c) ∧ NoAttr K (He.ga K c) f) : FldOk K C cs f := fun c hc Ca e => by
  rw [hC] at e
  obtain ⟨_, rfl⟩ := clsOf_inv e
  exact h c hc
def noatTab (K : PySem.W.Frag) (l : List (Str × Str)) : Bool := l.all fun q => He.eqO (PySem.W.findIn K (.ref (He.ga K q.1)) q.2) (some none)
theorem noatTab_ok {K : PySem.W.Frag} {l : List (Str × Str)} (h : noatTab K l = true) {x f : Str} (e : (x, f) ∈ l) : PySem.W.findIn K (.ref (He.ga K x)) f = some none := He.eqO_ok (List.all_eq_true.mp h _ e)
theorem ExG.cx {P : Program} {w : World} {K : PySem.W.Frag} {C C' : CT} {mg : Str → Option Value} {base : Heap} {k : Nat} {x : Str} {fs : List Str} (h2 : C.cls = C'.cls) (h : ExG P w ⟨K, C⟩ mg base k x fs) : ExG P w ⟨K, C'⟩ mg base k x fs := by
  obtain ⟨Ca, fI, fd, ps, a, b, c⟩ := h
  exact ⟨Ca, fI, fd, ps, a, h2 ▸ b, c⟩
theorem spI_cx {K : PySem.W.Frag} {C C' : CT} {c : Str} {n : Nat} {IF : IFn} (h2 : C.cls = C'.cls) {vs : List V} {H : Hp} {Q : VK} {E : XK} (h : spI ⟨K, C'⟩ c n IF vs H Q E) : spI ⟨K, C⟩ c n IF vs H Q E := by
  obtain ⟨a, Ca, dx, ws, G, ds, e1, e2, e3, e4, e5, e6, e7, q⟩ := h
  refine ⟨a, Ca, dx, ws, G, ds, e1, (congrFun h2 c).trans e2, e3, e4, e5, Reps.cx (K := ⟨K, C'⟩) (K' := ⟨K, C⟩) rfl h2.symm e6, e7, ?_⟩
  cases hF : IF ds with
  | stuck => rw [hF] at q; exact q
  | ok fs => rw [hF] at q; exact fun G' H' dx' vs' m g e r => q G' H' dx' vs' m g e (RepF.cx (K := ⟨K, C⟩) (K' := ⟨K, C'⟩) rfl h2 r)
  | exc e => rw [hF] at q; exact fun cls d G' H' m k => q cls d G' H' m (ExcOk.cx (K := ⟨K, C⟩) (K' := ⟨K, C'⟩) rfl h2 k)
theorem InG.cx {P : Program} {w : World} {K : PySem.W.Frag} {C C' : CT} {mg : Str → Option Value} {base : Heap} {k n : Nat} {c : Str} {IF : IFn} (h2 : C.cls = C'.cls) (h : InG P w ⟨K, C⟩ mg base k c n IF) : InG P w ⟨K, C'⟩ mg base k c n IF := by
  obtain ⟨Ca, f, fd, ps, a, b, c, d, e⟩ := h
  exact ⟨Ca, f, fd, ps, a, (congrFun h2 _).symm.trans b, c, d.imp fun vs H Q E z => spI_cx h2 z, e⟩
end DL
namespace DL
open PySem PySem.Spec PyProof.Rows L2
section
variable {X : Cx} {C : CT} {W : WX}
theorem dss_stuck {st : List Stmt} : DSs X C W st (fun _ => Out.stuck) := ⟨⟨fun pins s σ H D I ⟨Z, G, env, er, q⟩ => q.elim⟩⟩
end
theorem noatL {K : PySem.W.Frag} {l : List (Str × Str)} {x : Str} {fs : List Str} (h : noatTab K l = true) (e : ∀ f ∈ fs, (x, f) ∈ l) : ∀ f ∈ fs, PySem.W.findIn K (.ref (He.ga K x)) f = some none := fun f hf => noatTab_ok h (e f hf)
end DL
namespace DL
open PySem PySem.Spec PyProof.Rows L2
section
variable {K : KC} {Z : Ent} {G H : Hp} {σ : L2.St} {env : Env}
theorem ER.take (er : ER K Z G H σ env) {p : Addr} {o : HO} (g : G p = none) (z : Z.H p = none) (h : H p = some o) (fr : Free H σ env p) : ER K Z (upd G p o) H σ env := by
  refine er.move (.upd g) er.zh (er.sub.upd2 h) (fun a n q => ?_) .refl fun j x v a e1 e2 o' => ⟨fun _ e => e, ?_⟩
  · by_cases ha : a = p
    · rw [ha]; exact fun nt => nt.no z
    · rw [upd_ne ha] at n; exact er.new a n q
  · have hq : a ≠ p := fun hq => fr j x v e1 e2 (by rw [← hq]; exact o')
    rw [upd_ne hq]; exact (er.own j x v a e1 e2 o').1
end
section
variable {X : Cx} {C : CT} {W : WX}
def mLock (i : Nat) (m : Env → Out) : Env → Out := fun env => match env.getD i .no with
  | .own (.dct t kvs) => m (env.set i (.val (.dct t true kvs)))
  | _ => .stuck
@[simp] theorem mLock_own {i : Nat} {m : Env → Out} {env : Env} {t : Bool} {kvs : List (D × D)} (h : env.getD i .no = .own (.dct t kvs)) : mLock i m env = m (env.set i (.val (.dct t true kvs))) := by
  unfold mLock; rw [h]
def mNewD (t : Bool) : Env → Rz EV := fun _ => .ok (.ow true (.dct t []))
theorem de_newT {pos : Pos} : DE X C W (.Dict [] [] pos) (mNewD true) := ⟨PE.imp pe_dnewT fun σ H Q ⟨Z, G, env, er, q⟩ p hp =>
  q _ G _ (.lay er.sub hp) ⟨p, rfl, ⟨[], upd_same, .nil⟩, er.sub.none hp, er.zh.none hp, fun _ => hp⟩⟩
def dOf : EV → Rz (Bool × List (D × D))
  | .fz (.dct t _ kvs) => .ok (t, kvs)
  | .ow _ (.dct t kvs) => .ok (t, kvs)
  | _ => .stuck
@[simp] theorem dOf_fz (t l : Bool) (kvs : List (D × D)) : dOf (.fz (.dct t l kvs)) = .ok (t, kvs) := rfl
@[simp] theorem dOf_ow (n t : Bool) (kvs : List (D × D)) : dOf (.ow n (.dct t kvs)) = .ok (t, kvs) := rfl
def mGet1 (ma mk : Env → Rz EV) : Env → Rz EV := fun env => ma env >>= fun a => dOf a >>= fun kvs => mk env >>= fun b => match b with
  | .fz k => if isKeyD kvs.1 k = true then .ok (.fz ((dfind kvs.2 k).getD .non)) else .stuck
  | _ => .stuck
end
end DL
namespace DL
open PySem PySem.Spec PyProof.Rows L2
section
variable {K : KC} {Z : Ent} {G H : Hp} {σ : L2.St} {env : Env} {p : Addr}
theorem Free.set {i : Nat} (h : Free H σ env p) : Free H (σ.set i none) (env.set i .no) p := fun j x v e1 e2 o => by
  have hj : i ≠ j := fun hj => by
    subst hj
    by_cases hl : i < env.length
    · rw [List.getElem?_set_self hl] at e1; cases e1; exact o
    · rw [List.getElem?_eq_none (by simpa using hl)] at e1; cases e1
  rw [List.getElem?_set_ne hj] at e1 e2
  exact h j x v e1 e2 o
theorem Free.wipe (h : Free H σ env p) : ∀ vs : List Nat, Free H (L2.wipe σ vs) (wipeE env vs) p
  | [] => h
  | v :: vs => (h.wipe vs).set
end
section
variable {X : Cx} {C : CT} {W : WX}
structure Grow (K : KC) (Z : Ent) (G1 H1 : Hp) (LD : Addr) (G' H' : Hp) (acc : List D) : Prop where
  ext : Ext G1 (upd H1 LD (.lst [])) G' (upd H' LD (.lst []))
  at' : ∃ avs, H' LD = some (.lst avs) ∧ Reps K G' avs acc
  g : G' LD = none
theorem Grow.step {K : KC} {Z : Ent} {G1 H1 G2 H2 G5 H5 : Hp} {LD : Addr} {acc : List D} (h : Grow K Z G1 H1 LD G2 H2 acc) (x : Ext G2 H2 G5 H5) : Grow K Z G1 H1 LD G5 H5 acc := by
  obtain ⟨x2, ⟨avs, hl2, ra⟩, hg2⟩ := h
  have hg5 : G5 LD = none := x.n LD hg2 ⟨_, hl2, rfl⟩
  refine ⟨⟨x2.g.trans x.g, fun a o k => ?_, x.s.updR hg5, fun a k n => ?_⟩, ⟨avs, x.h _ _ hl2, ra.mono x.g⟩, hg5⟩
  · by_cases ha : a = LD
    · subst ha; rw [upd_same] at k ⊢; exact k
    · have := x2.h a o k
      rw [upd_ne ha] at this ⊢
      exact x.h a o this
  · by_cases ha : a = LD
    · rw [ha]; exact hg5
    · refine x.n a (x2.n a k n) ?_
      have n2 := n.mono x2.h
      obtain ⟨o, e, z⟩ := n2
      rw [upd_ne ha] at e
      exact ⟨o, e, z⟩
theorem Grow.put {K : KC} {Z : Ent} {G1 H1 G2 H2 : Hp} {LD : Addr} {acc : List D} {avs : List V} {v : V} {y : D} (h : Grow K Z G1 H1 LD G2 H2 acc) (e : H2 LD = some (.lst avs)) (r : Rep K G2 v y) : Grow K Z G1 H1 LD G2 (upd H2 LD (.lst (avs ++ [v]))) (acc ++ [y]) := by
  obtain ⟨x2, ⟨avs', hl2, ra⟩, hg2⟩ := h
  rw [e] at hl2; cases hl2
  exact ⟨by rw [upd_upd]; exact x2, ⟨_, upd_same, ra.append (.cons r .nil)⟩, hg2⟩
structure GrowD (K : KC) (Z : Ent) (G1 H1 : Hp) (LD : Addr) (G' H' : Hp) (acc : List (D × D)) : Prop where
  ext : Ext G1 (upd H1 LD (.lst [])) G' (upd H' LD (.lst []))
  at' : ∃ avs, H' LD = some (.dK avs) ∧ RepK K G' avs acc
  g : G' LD = none
theorem GrowD.step {K : KC} {Z : Ent} {G1 H1 G2 H2 G5 H5 : Hp} {LD : Addr} {acc : List (D × D)} (h : GrowD K Z G1 H1 LD G2 H2 acc) (x : Ext G2 H2 G5 H5) : GrowD K Z G1 H1 LD G5 H5 acc := by
  obtain ⟨x2, ⟨avs, hl2, ra⟩, hg2⟩ := h
  have hg5 : G5 LD = none := x.n LD hg2 ⟨_, hl2, rfl⟩
  refine ⟨⟨x2.g.trans x.g, fun a o k => ?_, x.s.updR hg5, fun a k n => ?_⟩, ⟨avs, x.h _ _ hl2, ra.mono x.g⟩, hg5⟩
  · by_cases ha : a = LD
    · subst ha; rw [upd_same] at k ⊢; exact k
    · have := x2.h a o k
      rw [upd_ne ha] at this ⊢
      exact x.h a o this
  · by_cases ha : a = LD
    · rw [ha]; exact hg5
    · refine x.n a (x2.n a k n) ?_
      have n2 := n.mono x2.h
      obtain ⟨o, e, z⟩ := n2
      rw [upd_ne ha] at e
      exact ⟨o, e, z⟩
end
end DL
namespace DL
open PySem PySem.Spec PyProof.Rows L2
structure GrowS (K : KC) (w : World) (Z : Ent) (G1 H1 : Hp) (LD : Addr) (G' H' : Hp) (acc : List Str) : Prop where
  ext : Ext G1 (upd H1 LD (.lst [])) G' (upd H' LD (.lst []))
  at' : ∃ S n, H' LD = some (DS.SWO w LD S n) ∧ n ≤ acc.length ∧ ∀ k, S k = true ↔ ∃ x ∈ acc, k = .inr x
  g : G' LD = none
theorem GrowS.step {K : KC} {w : World} {Z : Ent} {G1 H1 G2 H2 G5 H5 : Hp} {LD : Addr} {acc : List Str} (h : GrowS K w Z G1 H1 LD G2 H2 acc) (x : Ext G2 H2 G5 H5) : GrowS K w Z G1 H1 LD G5 H5 acc := by
  obtain ⟨x2, ⟨S, n, hl2, ra⟩, hg2⟩ := h
  have hg5 : G5 LD = none := x.n LD hg2 ⟨_, hl2, rfl⟩
  refine ⟨⟨x2.g.trans x.g, fun a o k => ?_, x.s.updR hg5, fun a k n => ?_⟩, ⟨S, n, x.h _ _ hl2, ra⟩, hg5⟩
  · by_cases ha : a = LD
    · subst ha; rw [upd_same] at k ⊢; exact k
    · have := x2.h a o k
      rw [upd_ne ha] at this ⊢
      exact x.h a o this
  · by_cases ha : a = LD
    · rw [ha]; exact hg5
    · refine x.n a (x2.n a k n) ?_
      have n2 := n.mono x2.h
      obtain ⟨o, e, z⟩ := n2
      rw [upd_ne ha] at e
      exact ⟨o, e, z⟩
end DL
namespace DL
open PySem PySem.Spec PyProof.Rows L2
end DL
namespace DL
open PySem PySem.Spec PyProof.Rows L2
end DL
namespace DL
open PySem PySem.Spec PyProof.Rows L2
section
variable {X : Cx} {C : CT} {W : WX}
def lSOf (a : EV) : Rz (List Str) := match a.d with
  | .lst ds => orStuck (strsD ds)
  | _ => .stuck
def lmL (f : List Str → Str → Option Nat) (ys : List Str) : List EV → Rz EV
  | [.fz (.str z)] => orStuck (f ys z) >>= fun n => .ok (.fz (.int (n : Nat)))
  | _ => .stuck
def mLm (f : List Str → Str → Option Nat) (mo : Env → Rz EV) (ma : Env → Rz (List EV)) : Env → Rz EV := fun env => mo env >>= fun a => lSOf a >>= fun ys => ma env >>= fun xs => lmL f ys xs
def cntF (ys : List Str) (z : Str) : Option Nat := some (ys.count z)
def idxF (ys : List Str) (z : Str) : Option Nat := if z ∈ ys then some (ys.idxOf z) else none
abbrev mCnt := mLm cntF
def lDOf (a : EV) : Rz (List D) := match a.d with
  | .lst ds => .ok ds
  | _ => .stuck
def idxG (ds : List D) (d : D) : Option Nat := match strsD ds, d with
  | some ys, .str z => idxF ys z
  | _, _ => if SeqAt.shaped (toPy d) = true ∧ SeqAt.shaped (.list (toPys ds)) = true then (toPys ds).findIdx? (fun e => PyData.eqv e (toPy d)) else none
@[simp] theorem idxG_strs (ys : List Str) (z : Str) : idxG (ys.map D.str) (.str z) = idxF ys z := by unfold idxG; rw [strsD_map]
def ldL (ds : List D) : List EV → Rz EV
  | [.fz d] => orStuck (idxG ds d) >>= fun n => .ok (.fz (.int (n : Nat)))
  | _ => .stuck
def mIdx (mo : Env → Rz EV) (ma : Env → Rz (List EV)) : Env → Rz EV := fun env => mo env >>= fun a => lDOf a >>= fun ds => ma env >>= fun xs => ldL ds xs
end
end DL
namespace DL
open PySem PySem.Spec PyProof.Rows L2
section
variable {X : Cx} {C : CT} {W : WX}
def setI' (i : Nat) (ds : List D) (d : D) : EV → Env → Out := fun b env => match b with
  | .fz (.int k) => (match ixN ds.length k with
    | some j => .nx (env.set i (.own (.lst (ds.set j d))))
    | none => .stuck)
  | _ => .stuck
def mSetI (i : Nat) (mk mv : Env → Rz EV) : Env → Out := onE mv fun a env => match a.fr, env.getD i .no with
  | .fz d, .own (.lst ds) => onE mk (setI' i ds d) env
  | _, _ => .stuck
theorem ds_setI (i : Nat) {x : Str} {k v : Expr} {mk mv : Env → Rz EV} {xp pos' pos : Pos} (hk : DE X C W k mk) (hv : DE X C W v mv) (hN : X.N[i]? = some x := by rfl) (hx : Vis X.env.scope x := by first | exact Or.inl rfl | exact Or.inr (Or.inl rfl) | exact Or.inr (Or.inr rfl)) (hd : (x == ("__debug__" : Str)) = false := by decide)
    (hcd : (x == ("__classdict__" : Str)) = false := by decide) (hs : swapsWithSole [.Subscript (.Name x xp) k pos'] v pos.line X.env = pure false := by rfl) (hw : swappedStores [.Subscript (.Name x xp) k pos'] v X.env = pure none := by rfl)
    (h1 : (assignEach [.Subscript (.Name x xp) k pos'] X.env).map (·.2) = [assign (.Subscript (.Name x xp) k pos') X.env] := by rfl)
    (ha : ∀ v, assign (.Subscript (.Name x xp) k pos') X.env v = (do
      let ov ← holding [v] (eval (.Name x xp) X.env)
      let iv ← holding [v, ov] (eval k X.env)
      standAt pos'
      holding [v, ov, iv] (setItem ov iv v)
      release [v, ov, iv] []) := by intro _; rfl) :
    DS X C W (.Assign [.Subscript (.Name x xp) k pos'] v pos) (mSetI i mk mv) :=
  ⟨PS.imp (ps_asg hv.pe (pg_sub (pe_var hN hx hd hcd) hk.pe set_list ha) hs hw h1) fun D σ H h => onE_go h fun Z G1 H1 env v a er z s va q fr => by
    obtain ⟨G2, s2, er2, va2⟩ := frz_go er va fr
    cases ha : a.fr with
    | ow n w => rw [ha] at q; exact q.elim
    | fz d =>
      rw [ha] at q va2
      split at q
      · rename_i d' ds hd' hw
        cases hd'
        obtain ⟨v, h1, p, rfl, us, h3, h4⟩ := er2.at' i _ (getD_some hw (by simp))
        refine ⟨.ref p, h1, Z, G2, env, er2, ?_⟩
        unfold onE at q
        cases hm : mk env with
        | stuck => rw [hm] at q; exact q.elim
        | exc e =>
          rw [hm] at q
          exact fun cls d' G' H' x k => q σ H' G' cls d' (s2.trans x.g) (er2.ext x) k
        | ok b =>
          rw [hm] at q
          intro v2 G3 H3 x3 vb
          dsimp only at q
          unfold setI' at q
          split at q
          · rename_i k
            split at q
            · rename_i j hj
              have e3 := er2.ext x3
              have rk := h4.mono x3.g
              have ev2 : v2 = V.int k := rep_int vb
              subst ev2
              exact ⟨p, us, k, j, rfl, rfl, x3.h _ _ h3, by rw [h4.length]; exact hj, q σ _ G3 (s2.trans x3.g) (e3.put (getD_some hw (by simp)) h1 ⟨_, upd_same, Reps.set j (Rep.mono x3.g va2) rk⟩)⟩
            · exact q.elim
          · exact q.elim
      · exact q.elim⟩
end
end DL
namespace DL
open PySem PySem.Spec PyProof.Rows L2
end DL
namespace L2
open PySem PySem.Spec PyProof.Rows
abbrev ClT := Value × Option Nat × (Addr → Value → Option Addr → TS)
def endsAt (D : Ends) : Option Nat → Ends
  | none => D
  | some i => { nx := fun σ' H' => D.nx (σ'.set i none) H', rt := D.rt, bk := fun σ' H' => D.bk (σ'.set i none) H', ct := fun σ' H' => D.ct (σ'.set i none) H' }
def slAt (σ : L2.St) (a : Addr) : Option Nat → L2.St
  | none => σ
  | some i => σ.set i (some (.ref a))
def wMix (K : PySem.W.Frag) (Wout : WX) (D : Ends) : List ClT → WX
  | [] => Wout
  | (c, o, ts) :: r => fun cls d σ H => ∃ b, PySem.W.exmOne K cls c = some b ∧ (b = true → ∀ a, H a = none → ts a cls d (endsAt D o) (slAt σ a o) H) ∧ (b = false → wMix K Wout D r cls d σ H)
end L2
namespace DL
open PySem PySem.Spec PyProof.Rows L2
abbrev ClM := (Str → Option Bool) × Option Nat × (Env → Out)
def catchM : List ClM → Exn → Env → Out
  | [], e, env => .exc e env
  | (S, o, ms) :: r, e, env => match S e.cls with
    | some true => (match o with
      | none => finO (ms env)
      | some i => fin i (ms (env.set i (.exn e))))
    | some false => catchM r e env
    | none => .stuck
section
variable {X : Cx} {C : CT} {W : WX}
abbrev tSu (X : Cx) (C : CT) (ms : Env → Out) : Addr → Value → Option Addr → TS := fun a cls d => fun D σ H => ∃ Ca, cls = .ref Ca ∧ tS ⟨X.K, ⟨C.cls, some (a, Ca, d), C.slf, C.so⟩⟩ W0x ms D σ H
inductive HdsD (X : Cx) (C : CT) : List ExceptHandler → List ClM → List ClT → Prop
  | nil : HdsD X C [] [] []
  | plain {x : Str} {c : Value} {S : Str → Option Bool} {ms : Env → Out} {b₀ : Stmt} {suite : List Stmt} {np pos' : Pos} {hds : List ExceptHandler} {cl : List ClM} {l : List ClT} (hc : Names X x c) (hS : ∀ (y : Str) (a : Addr) (b : Bool), S y = some b → C.cls y = some a → PySem.W.exmOne X.K (.ref a) c = some b)
      (hsu : ∀ (a : Addr) (oe : Obj) (Ca : Addr) (d : Option Addr) (pn : List (Addr × Obj)), Zc (.ref Ca) d oe → (∃ vs, oe.data = .fields vs) → DSs (X.suite a ((a, oe) :: pn)) ⟨C.cls, some (a, Ca, d), C.slf, C.so⟩ W0x (b₀ :: suite) ms) (r : HdsD X C hds cl l) :
      HdsD X C (.ExceptHandler (some (.Name x np)) none (b₀ :: suite) pos' :: hds) ((S, none, ms) :: cl) ((c, none, tSu X C ms) :: l)
  | named {x n : Str} {i : Nat} {c : Value} {S : Str → Option Bool} {ms : Env → Out} {b₀ : Stmt} {suite : List Stmt} {np pos' : Pos} {hds : List ExceptHandler} {cl : List ClM} {l : List ClT} (hi : X.N[i]? = some n) (hln : X.env.kindOf n = some .local) (hc : Names X x c) (hS : ∀ (y : Str) (a : Addr) (b : Bool), S y = some b → C.cls y = some a → PySem.W.exmOne X.K (.ref a) c = some b)
      (hsu : ∀ (a : Addr) (oe : Obj) (Ca : Addr) (d : Option Addr) (pn : List (Addr × Obj)), Zc (.ref Ca) d oe → (∃ vs, oe.data = .fields vs) → DSs (X.suite a ((a, oe) :: pn)) ⟨C.cls, some (a, Ca, d), C.slf, C.so⟩ W0x (b₀ :: suite) ms) (r : HdsD X C hds cl l) :
      HdsD X C (.ExceptHandler (some (.Name x np)) (some n) (b₀ :: suite) pos' :: hds) ((S, some i, ms) :: cl) ((c, some i, tSu X C ms) :: l)
theorem HdsD.go (hC : C.ex = none) {hds : List ExceptHandler} {cl : List ClM} {l : List ClT} (h : HdsD X C hds cl l) {Z : Ent} {D : Ends} {e : Exn} {env1 : Env} {G1 H1 : Hp} {σ1 : L2.St} {cls : Value} {d : Option Addr}
    (q : Post (kc X C) W Z D G1 (catchM cl e env1)) (er1 : ER (kc X C) Z G1 H1 σ1 env1) (ko : ExcOk (kc X C) G1 H1 cls d e) : wMix X.K W D l cls d σ1 H1 := by
  have un : ∀ {a Ca : Addr} {σ3 : L2.St} {H3 G3 : Hp} {e3 : Env}, ER ⟨X.K, ⟨C.cls, some (a, Ca, d), C.slf, C.so⟩⟩ Z G3 H3 σ3 e3 → ER (kc X C) Z G3 H3 σ3 (e3.map unX) := fun {a Ca} {_ _ _ _} er3 => ER.unX (K := ⟨X.K, ⟨C.cls, some (a, Ca, d), C.slf, C.so⟩⟩) (K' := kc X C) rfl rfl (fun _ z => z) er3
  obtain ⟨Ca, k1, rfl, k3⟩ := id ko
  induction h with
  | nil => exact q σ1 H1 G1 _ d .refl er1 ko
  | @plain x c S ms b₀ suite np pos' hds cl l hc hS hsu r ih =>
    unfold catchM at q
    cases hSe : S e.cls with
    | none => rw [hSe] at q; exact q.elim
    | some b =>
      rw [hSe] at q
      refine ⟨b, hS _ _ _ hSe k1, fun hb1 a ha => ?_, fun hb0 => ?_⟩
      · subst hb1
        dsimp only at q
        refine ⟨Ca, rfl, Z, G1, _, ER.cx (K := kc X C) (K' := ⟨X.K, ⟨C.cls, some (a, Ca, d), C.slf, C.so⟩⟩) rfl rfl (fun _ z => z) hC er1, ?_⟩
        cases hq : ms env1 with
        | nx e3 => rw [hq] at q; exact fun σ3 H3 G3 s3 er3 => q _ _ _ s3 (un er3)
        | bk e3 => rw [hq] at q; exact fun σ3 H3 G3 s3 er3 => q _ _ _ s3 (un er3)
        | ct e3 => rw [hq] at q; exact fun σ3 H3 G3 s3 er3 => q _ _ _ s3 (un er3)
        | ret ev => rw [hq] at q; exact fun σ3 env3 v H3 G3 Hs s3 er3 hz va => q _ _ v _ _ Hs s3 (un er3) hz (EVok.cx (K := ⟨X.K, ⟨C.cls, some (a, Ca, d), C.slf, C.so⟩⟩) (K' := kc X C) rfl rfl (fun _ z => z) va)
        | rtE ev e3 => rw [hq] at q; exact fun σ3 v H3 G3 Hs s3 er3 hz va => q _ v _ _ Hs s3 (un er3) hz (EVok.cx (K := ⟨X.K, ⟨C.cls, some (a, Ca, d), C.slf, C.so⟩⟩) (K' := kc X C) rfl rfl (fun _ z => z) va)
        | exc e' env' => rw [hq] at q; exact q.elim
        | stuck => rw [hq] at q; exact q.elim
      · subst hb0
        exact ih q
  | @named x n i c S ms b₀ suite np pos' hds cl l hi hln hc hS hsu r ih =>
    unfold catchM at q
    cases hSe : S e.cls with
    | none => rw [hSe] at q; exact q.elim
    | some b =>
      rw [hSe] at q
      refine ⟨b, hS _ _ _ hSe k1, fun hb1 a ha => ?_, fun hb0 => ?_⟩
      · subst hb1
        dsimp only at q
        have er2 : ER ⟨X.K, ⟨C.cls, some (a, Ca, d), C.slf, C.so⟩⟩ Z G1 H1 σ1 env1 := ER.cx (K := kc X C) (K' := ⟨X.K, ⟨C.cls, some (a, Ca, d), C.slf, C.so⟩⟩) rfl rfl (fun _ z => z) hC er1
        have ko2 : ExcOk ⟨X.K, ⟨C.cls, some (a, Ca, d), C.slf, C.so⟩⟩ G1 G1 (.ref Ca) d e := ExcOk.cx (K := kc X C) (K' := ⟨X.K, ⟨C.cls, some (a, Ca, d), C.slf, C.so⟩⟩) rfl rfl (ko.mono .refl)
        refine ⟨Ca, rfl, Z, G1, _, er2.setX ⟨a, Ca, d, rfl, rfl, ko2⟩, ?_⟩
        cases hq : ms (env1.set i (.exn e)) with
        | nx e3 => rw [hq] at q; exact fun σ3 H3 G3 s3 er3 => q _ _ _ s3 (un er3).setN
        | bk e3 => rw [hq] at q; exact fun σ3 H3 G3 s3 er3 => q _ _ _ s3 (un er3).setN
        | ct e3 => rw [hq] at q; exact fun σ3 H3 G3 s3 er3 => q _ _ _ s3 (un er3).setN
        | ret ev => rw [hq] at q; exact fun σ3 env3 v H3 G3 Hs s3 er3 hz va => q _ _ v _ _ Hs s3 (un er3) hz (EVok.cx (K := ⟨X.K, ⟨C.cls, some (a, Ca, d), C.slf, C.so⟩⟩) (K' := kc X C) rfl rfl (fun _ z => z) va)
        | rtE ev e3 => rw [hq] at q; exact fun σ3 v H3 G3 Hs s3 er3 hz va => q _ v _ _ Hs s3 ((un er3).setN (u := none)) hz (EVok.cx (K := ⟨X.K, ⟨C.cls, some (a, Ca, d), C.slf, C.so⟩⟩) (K' := kc X C) rfl rfl (fun _ z => z) va)
        | exc e' env' => rw [hq] at q; exact q.elim
        | stuck => rw [hq] at q; exact q.elim
      · subst hb0
        exact ih q
end
end DL
namespace DL
open PySem PySem.Spec PyProof.Rows L2
end DL
namespace DL
open PySem PySem.Spec PyProof.Rows L2
def insB (K : PySem.W.Frag) (C : Addr) : Bool := decide (PySem.W.findIn K (.ref C) "__class__" = some (some (.builtin "object.__class__"))) && decide (PySem.W.specialIn K (.builtin "object.__class__") "__get__" = some (some (.builtin "getset_descriptor.__get__"))) && decide (PySem.W.takesIn K (.builtin "object.__class__") = some true) && decide (PySem.W.mroIn K C (.type "object") = some true)
def isCD (S : Str → Option Bool) (T : String → Option Bool) : D → Option Bool
  | .ins x _ => S x
  | d => (tyName d).bind T
def gIsC (c : Str) (S : Str → Option Bool) (T : String → Option Bool) : List EV → Rz EV
  | [a, .fz (.cls c')] => if c' = c then orStuck (isCD S T a.d) >>= fun k => .ok (.fz (.bl k)) else .stuck
  | _ => .stuck
@[simp] theorem gIsC_e (c : Str) (S : Str → Option Bool) (T : String → Option Bool) (a : EV) : gIsC c S T [a, .fz (.cls c)] = orStuck (isCD S T a.d) >>= fun k => .ok (.fz (.bl k)) := by
  show (if c = c then _ else _) = _
  rw [if_pos rfl]
@[simp] theorem isCD_ins (S : Str → Option Bool) (T : String → Option Bool) (x : Str) (fs : List (Str × D)) : isCD S T (.ins x fs) = S x := rfl
end DL
namespace DL
open PySem PySem.Spec PyProof.Rows L2
section
variable {X : Cx} {C : CT} {W : WX}
def occ0 (s z : Str) : Option Nat := (Builtin.Str.occurrences s z 0 s.length 1).head?
def gIxS (s : Str) (b : EV) : Rz EV := match b with
  | .fz (.str z) => (match occ0 s z with
    | some k => .ok (.fz (.int (k : Nat)))
    | none => .stuck)
  | _ => .stuck
@[simp] theorem gIxS_e (s z : Str) : gIxS s (.fz (.str z)) = match occ0 s z with
    | some k => .ok (.fz (.int (k : Nat)))
    | none => .stuck := rfl
end
end DL
namespace DL
open PySem PySem.Spec PyProof.Rows L2
end DL
namespace DL
open PySem PySem.Spec PyProof.Rows L2
end DL
namespace DL
open PySem PySem.Spec PyProof.Rows L2
def fnAt (K : PySem.W.Frag) (C : Addr) (m : Str) : Bool := match PySem.W.findIn K (.ref C) m with
  | some (some (.ref f)) => PySem.W.fnIn K f
  | _ => false
def fnSq (K : PySem.W.Frag) (C : Addr) (m : Str) : Bool := fnAt K C m && PySem.W.noSeq K C
def smA (K : PySem.W.Frag) (C : Addr) (m : Str) : Addr := rcA K C m "staticmethod" 0
def smB (K : PySem.W.Frag) (C : Addr) (m : Str) : Bool := (match PySem.W.findCls K (.ref C) (.type "type") m with
    | some (.get g p ob tp) => decide (g = .builtin "staticmethod.__get__" ∧ p = .ref (He.ma K C m) ∧ ob = .none ∧ tp = .ref C)
    | _ => false) && ((match PySem.W.recIn K (He.ma K C m) "staticmethod" with
    | some (.ref _ :: _) => true
    | _ => false) && (PySem.W.keepIn K (.ref (smA K C m)) && PySem.W.handedIn (.ref (smA K C m))))
structure SMet (K : PySem.W.Frag) (C : Addr) (m : Str) : Prop where
  at_ : PySem.W.findCls K (.ref C) (.type "type") m = some (.get (.builtin "staticmethod.__get__") (.ref (He.ma K C m)) .none (.ref C))
  rc : ∃ rest, PySem.W.recIn K (He.ma K C m) "staticmethod" = some (.ref (smA K C m) :: rest)
  kp : PySem.W.keepIn K (.ref (smA K C m)) = true
  hd : PySem.W.handedIn (.ref (smA K C m)) = true
theorem smB_ok {K : PySem.W.Frag} {C : Addr} {m : Str} (h : smB K C m = true) : SMet K C m := by
  obtain ⟨h1, h2⟩ := He.ba h
  obtain ⟨h2, h3⟩ := He.ba h2
  obtain ⟨h3, h4⟩ := He.ba h3
  refine ⟨?_, ?_, h3, h4⟩
  · split at h1
    · rename_i g p ob tp e
      obtain ⟨rfl, rfl, rfl, rfl⟩ := of_decide_eq_true h1
      exact e
    · cases h1
  · unfold smA
    split at h2
    · rename_i g rest e
      unfold rcA
      rw [e]; exact ⟨rest, rfl⟩
    · cases h2
end DL
namespace DL
open PySem PySem.Spec PyProof.Rows L2
def obsAG (as : List Addr) (q : Ask) (g : Addr → Option Obj) : AlE := obsE q (He.frG g as)
def hookA (as : List Addr) (q : Ask) : PySem.W.Hook where
  α := AlE
  obs := fun s => obsAG as q s.heap.get?
  val := fun _ => valE q
  says := fun _ h => ∃ K : PySem.W.Frag, K.In h ∧ SaysE q K
  of := fun _ _ e => ⟨_, He.frG_in, e⟩
  keeps := fun _ _ _ ⟨K, hK, c⟩ k => ⟨K, PySem.W.Frag.In.keeps hK k, c⟩
theorem obsAG_eq {as : List Addr} {q : Ask} {g : Addr → Option Obj} {s : Shared} (h : ∀ a, g a = s.heap.get? a) : obsAG as q g = (hookA as q).obs s := by
  have e : g = s.heap.get? := funext h
  rw [e] <;> rfl
end DL
namespace LW.K33
open PySem PySem.Spec PyProof.Rows L2 DL
def top (i : Nat) : Stmt := PySem.Challenge.pw_awaitbook_k33_the_row_that_applies.main.body.getD i (.Pass ⟨0, 0, 0, 0⟩)
def fa0 : He.Fa := .glo "NoRow"
def fa1 : He.Fa := .cls "Book"
def fa2 : He.Fa := .glo "Book"
def fa3 : He.Fa := .meth "Book" "__getitem__"
def fa4 : He.Fa := .meth "Book" "__iter__"
def fa5 : He.Fa := .meth "Book" "__setitem__"
def fa6 : He.Fa := .glo "_law_draws"
def fa7 : He.Fa := .mkr "Book"
def fa8 : He.Fa := .glo "_law_cell"
def fa9 : He.Fa := .glo "SymbolError"
def fa10 : He.Fa := .glo "is_word"
def fa11 : He.Fa := .glo "is_sign"
def fa12 : He.Fa := .glo "Signs"
def fa13 : He.Fa := .cls "Signs"
def fa14 : He.Fa := .mkr "Signs"
def fa15 : He.Fa := .glo "_law_fits"
def fa16 : He.Fa := .glo "_law_longest"
def fa17 : He.Fa := .glo "_law_same"
def fa18 : He.Fa := .meth "Book" "drop"
def fa19 : He.Fa := .meth "Book" "match"
def fa20 : He.Fa := .free "abs"
def fa21 : He.Fa := .free "all"
def fa22 : He.Fa := .free "bool"
def fa23 : He.Fa := .free "int"
def fa24 : He.Fa := .free "isinstance"
def fa25 : He.Fa := .free "iter"
def fa26 : He.Fa := .free "len"
def fa27 : He.Fa := .free "list"
def fa28 : He.Fa := .free "range"
def fa29 : He.Fa := .free "set"
def fa30 : He.Fa := .free "sorted"
def fa31 : He.Fa := .free "str"
def fa32 : He.Fa := .free "super"
def fa33 : He.Fa := .free "tuple"
def fa34 : He.Fa := .str "LOWER" "abcdefghijklmnopqrstuvwxyz"
def fa35 : He.Fa := .str "UPPER" "ABCDEFGHIJKLMNOPQRSTUVWXYZ"
def fa36 : He.Fa := .str "DIGITS" "0123456789"
def fa37 : He.Fa := .glo "law"
def fb0 : PySem.W.Frag → Bool := fun K => supB K (He.ga K "NoRow") (He.ga K "NoRow")
def fb1 : PySem.W.Frag → Bool := fun K => initB K (He.ga K "NoRow") (He.ga K "NoRow")
def fb2 : PySem.W.Frag → Bool := fun K => supB K (He.ga K "SymbolError") (He.ga K "SymbolError")
def fb3 : PySem.W.Frag → Bool := fun K => initB K (He.ga K "SymbolError") (He.ga K "SymbolError")
def fb4 : PySem.W.Frag → Bool := fun K => cvS K (He.ga K "Signs") "END" "$"
def fb5 : PySem.W.Frag → Bool := fun K => crB K (He.ga K "Book")
def fb6 : PySem.W.Frag → Bool := fun K => smB K (He.ga K "Book") "fits"
def fb7 : PySem.W.Frag → Bool := fun K => fnSq K (He.ga K "Book") "__setitem__"
def fb8 : PySem.W.Frag → Bool := fun K => noatTab K [("NoRow", "tops"), ("Book", "rows"), ("SymbolError", "symbol"), ("Signs", "words")]
def fn0 : He.DefD := ⟨("Book", some "__getitem__"), "__getitem__", "Book.__getitem__", defArgs (inClass (top 17) 7), defBody (inClass (top 17) 7), defScope (inClass (top 17) 7), [], []⟩
def fn1 : He.DefD := ⟨("Book", some "__iter__"), "__iter__", "Book.__iter__", defArgs (inClass (top 17) 5), defBody (inClass (top 17) 5), defScope (inClass (top 17) 5), [], []⟩
def fn2 : He.DefD := ⟨("Book", some "__setitem__"), "__setitem__", "Book.__setitem__", defArgs (inClass (top 17) 8), defBody (inClass (top 17) 8), defScope (inClass (top 17) 8), [], []⟩
def fn3 : He.DefD := ⟨("_law_draws", none), "_law_draws", "_law_draws", defArgs (top 20), defBody (top 20), defScope (top 20), [], []⟩
def fn4 : He.DefD := ⟨("Book", some "__init__"), "__init__", "Book.__init__", defArgs (inClass (top 17) 1), defBody (inClass (top 17) 1), defScope (inClass (top 17) 1), [], []⟩
def fn5 : He.DefD := ⟨("_law_cell", none), "_law_cell", "_law_cell", defArgs (top 19), defBody (top 19), defScope (top 19), [], []⟩
def fn6 : He.DefD := ⟨("is_word", none), "is_word", "is_word", defArgs (top 11), defBody (top 11), defScope (top 11), [], []⟩
def fn7 : He.DefD := ⟨("is_sign", none), "is_sign", "is_sign", defArgs (top 12), defBody (top 12), defScope (top 12), [], []⟩
def fn8 : He.DefD := ⟨("Signs", some "__init__"), "__init__", "Signs.__init__", defArgs (inClass (top 13) 1), defBody (inClass (top 13) 1), defScope (inClass (top 13) 1), [], []⟩
def fn9 : He.DefD := ⟨("_law_fits", none), "_law_fits", "_law_fits", defArgs (top 22), defBody (top 22), defScope (top 22), [], []⟩
def fn10 : He.DefD := ⟨("_law_longest", none), "_law_longest", "_law_longest", defArgs (top 23), defBody (top 23), defScope (top 23), [], []⟩
def fn11 : He.DefD := ⟨("_law_same", none), "_law_same", "_law_same", defArgs (top 21), defBody (top 21), defScope (top 21), [], []⟩
def fn12 : He.DefD := ⟨("Book", some "drop"), "drop", "Book.drop", defArgs (inClass (top 17) 10), defBody (inClass (top 17) 10), defScope (inClass (top 17) 10), [], []⟩
def fn13 : He.DefD := ⟨("Book", some "match"), "match", "Book.match", defArgs (inClass (top 17) 11), defBody (inClass (top 17) 11), defScope (inClass (top 17) 11), [], []⟩
def fn14 : He.DefD := ⟨("law", none), "law", "law", defArgs (top 24), defBody (top 24), defScope (top 24), [], []⟩
def fs0 : DefS := ⟨"NoRow", "NoRow.__init__", defArgs (inClass (top 6) 0), defBody (inClass (top 6) 0), defScope (inClass (top 6) 0)⟩
def fs1 : DefS := ⟨"SymbolError", "SymbolError.__init__", defArgs (inClass (top 5) 0), defBody (inClass (top 5) 0), defScope (inClass (top 5) 0)⟩
def fc0 : DefC := ⟨"staticmethod", 0, ⟨("Book", some "fits"), "fits", "Book.fits", defArgs (inClass (top 17) 3), defBody (inClass (top 17) 3), defScope (inClass (top 17) 3), [], []⟩⟩
def l_fa : List (He.Fa) := ([fa0, fa1, fa2, fa3, fa4, fa5, fa6, fa7, fa8, fa9, fa10, fa11, fa12, fa13, fa14, fa15, fa16, fa17, fa18, fa19] : List (He.Fa)) ++ ([fa20, fa21, fa22, fa23, fa24, fa25, fa26, fa27, fa28, fa29, fa30, fa31, fa32, fa33, fa34, fa35, fa36, fa37] : List (He.Fa))
def l_fb : List (PySem.W.Frag → Bool) := ([fb0, fb1, fb2, fb3, fb4, fb5, fb6, fb7, fb8] : List (PySem.W.Frag → Bool))
def l_fn : List (He.DefD) := ([fn0, fn1, fn2, fn3, fn4, fn5, fn6, fn7, fn8, fn9, fn10, fn11, fn12, fn13, fn14] : List (He.DefD))
def l_fs : List (DefS) := ([fs0, fs1] : List (DefS))
def l_fc : List (DefC) := ([fc0] : List (DefC))
def loose : List Str := (["_wall", "AwaitError", "LineError", "RowError", "SymbolError", "NoRow", "LOWER", "UPPER", "DIGITS", "is_word", "is_sign", "Signs", "parse_tops", "parse_signs", "Book", "_law_cell", "_law_draws", "_law_same", "_law_fits", "_law_longest"] : List (Str))
abbrev R : PySem.W.OpenRow := PySem.W.OpenLaw.row PySem.Challenge.rw_awaitbook_k33_the_row_that_applies
abbrev PP : Program := (PySem.Challenge.rw_awaitbook_k33_the_row_that_applies).prog
def ask : Ask := ⟨PP.main.file, l_fa, l_fb, l_fn, l_fs, l_fc⟩
def adrs : List Addr := ([3, 2, 6, 4, 21, 31, 53, 65, 86, 107, 114, 121, 212, 221, 228, 328, 339, 346, 351, 356] : List (Addr)) ++ ([363, 368, 0, 20, 30, 52, 64, 85, 106, 113, 120, 211, 220, 227, 327, 338, 345, 350, 355, 362] : List (Addr)) ++ ([367, 15, 16, 17, 18, 19, 29, 32, 50, 51, 63, 83, 84, 104, 105, 110, 111, 112, 115, 116] : List (Addr)) ++ ([117, 118, 119, 135, 144, 152, 159, 166, 173, 180, 187, 192, 197, 202, 209, 210, 213, 214, 217, 218] : List (Addr)) ++ ([219, 222, 223, 224, 225, 226, 242, 251, 261, 269, 276, 283, 290, 297, 304, 311, 318, 325, 326, 329] : List (Addr)) ++ ([330, 333, 334, 335, 336, 337, 340, 341, 342, 343, 344, 347, 348, 349, 352, 353, 354, 357, 358, 359] : List (Addr)) ++ ([360, 361, 364, 365, 366, 49, 38, 82, 71, 103, 92, 134, 142, 143, 151, 158, 165, 172, 179, 186] : List (Addr)) ++ ([191, 196, 201, 208, 241, 249, 250, 259, 260, 268, 275, 282, 289, 296, 303, 310, 317, 324, 44, 45] : List (Addr)) ++ ([46, 47, 48, 77, 78, 79, 80, 81, 98, 99, 100, 101, 102, 129, 130, 131, 132, 133, 141, 145] : List (Addr)) ++ ([146, 147, 148, 149, 150, 153, 154, 155, 156, 157, 160, 161, 162, 163, 164, 167, 168, 169, 170, 171] : List (Addr)) ++ ([174, 175, 176, 177, 178, 181, 182, 183, 184, 185, 188, 189, 190, 193, 194, 195, 198, 199, 200, 203] : List (Addr)) ++ ([204, 205, 206, 207, 236, 237, 238, 239, 240, 248, 252, 258, 262, 263, 264, 265, 266, 267, 270, 271] : List (Addr)) ++ ([272, 273, 274, 277, 278, 279, 280, 281, 284, 285, 286, 287, 288, 291, 292, 293, 294, 295, 298, 299] : List (Addr)) ++ ([300, 301, 302, 305, 306, 307, 308, 309, 312, 313, 314, 315, 316, 319, 320, 321, 322, 323] : List (Addr))
abbrev hk : PySem.W.Hook := hookA adrs ask
def ob (s : PySem.W.SharedT) : AlE := obsAG adrs ask (HandSHeadRun.getT s)
theorem ob_eq (s : PySem.W.SharedT) : ob s = hk.obs s.abs := obsAG_eq (HandSHeadRun.getT_eq s)
theorem run (w : World) : HandSHeadRun.RunEq R (PySem.W.view R.prog [24]) hk ob 20000 loose w := by
  intro os
  kernel_rfl
end LW.K33
namespace LW
open PySem L2 DL
def b__law_cell : DL.Env → Out :=
    (mSeq (mIfS (mB (m2 (mV 1) (mCall (mCons (mV 0) mNil) gLen) opLt))
      (mRet (mCall (mCons (m2 (mV 0) (mV 1) opIx) mNil) gAbs))
      Out.nx)
    (mRet (mC (.int 1000001002002001005001004003000000000002001000003001002003000000002000000000000003001))))
def F__law_cell : Fn := runB 2 b__law_cell
def l1__law_draws : DL.Env → Out :=
    (mIfS (mAnd (mB (m2 (mV 0) (m2 (mC (.int 10)) (mC (.int 18)) opPow) opGe)) (mB (m2 (mV 3) (mC (.int 0)) opGt)))
        (mSeq (mApp 2 (m2 (mCall (mCons (mV 3) mNil) gInt) (mC (.int 1000)) opMod))
        (mSetF 3 (m2 (mV 3) (mC (.int 1000)) opDiv)))
        (mSeq (mSetF 5 (m2 (mCall (mCons (m2 (m2 (m2 (mV 0) (mC (.int 3)) opAdd) (m2 (mV 4) (mC (.int 5)) opAdd) opMul) (mC (.int 7919)) opMul) mNil) gInt) (mC (.int 100003)) opMod))
        (mApp 2 (m2 (m2 (mCall (mCons (m2 (m2 (m2 (mV 5) (mV 5) opMul) (mV 0) opAdd) (m2 (mC (.int 11)) (mV 4) opMul) opAdd) mNil) gInt) (mC (.int 99991)) opMod) (mC (.int 100)) opDiv))))
def b__law_draws : DL.Env → Out :=
    (mSeq (mSetO 2 (mLst mNil))
    (mSeq (mSetF 3 (mV 0))
    (mSeq (mFor (mRng1 (mCons (mV 1) mNil)) (pName 4)
      l1__law_draws)
    (mRet (mV 2)))))
def F__law_draws : Fn := runB 6 b__law_draws
def e1_is_word : DL.Env → Rz EV :=
    (m2 (mV 1) (m2 (m2 (mC (.str "abcdefghijklmnopqrstuvwxyz")) (mC (.str "ABCDEFGHIJKLMNOPQRSTUVWXYZ")) opAdd) (mC (.str "0123456789")) opAdd) opIn)
def b_is_word : DL.Env → Out :=
    (mRet (mAndV (mChn (mC (.int 1)) (mCall (mCons (mV 0) mNil) gLen) (mC (.int 6)) opLe opLe) (mCall (mCons (mLc (mItems (mV 0)) (pName 1) mYes e1_is_word [1]) mNil) gAll)))
def F_is_word : Fn := runB 2 b_is_word
def b_is_sign : DL.Env → Out :=
    (mRet (mAndV (mFn F_is_word (mCons (mV 0) mNil) 1) (m2 (m2 (mV 0) (mC (.int 0)) opIx) (mC (.str "abcdefghijklmnopqrstuvwxyz")) opIn)))
def F_is_sign : Fn := runB 1 b_is_sign
def e1__law_same (rec : Fn) : DL.Env → Rz EV :=
    (mFn rec (mCons (m2 (mV 0) (mV 2) opIx) (mCons (m2 (mV 1) (mV 2) opIx) mNil)) 2)
def b__law_same (rec : Fn) : DL.Env → Out :=
    (mSeq (mIfS (mB (m2 (mV 1) (mC .non) opIs))
      (mRet (m2 (mV 0) (mC .non) opIs))
      Out.nx)
    (mSeq (mIfS (mB (mCall (mCons (mV 1) (mCons (mC (.ty "bool")) mNil)) gIsi))
      (mRet (mAndV (mCall (mCons (mV 0) (mCons (mC (.ty "bool")) mNil)) gIsi) (m2 (mV 0) (mV 1) opEq)))
      Out.nx)
    (mSeq (mIfS (mB (mCall (mCons (mV 1) (mCons (mC (.ty "int")) mNil)) gIsi))
      (mRet (mAndV (mCall (mCons (mV 0) (mCons (mC (.ty "int")) mNil)) gIsi) (mAndV (mNotV (mCall (mCons (mV 0) (mCons (mC (.ty "bool")) mNil)) gIsi)) (m2 (mV 0) (mV 1) opEq))))
      Out.nx)
    (mSeq (mIfS (mB (mCall (mCons (mV 1) (mCons (mC (.ty "str")) mNil)) gIsi))
      (mRet (mAndV (mCall (mCons (mV 0) (mCons (mC (.ty "str")) mNil)) gIsi) (m2 (mV 0) (mV 1) opEq)))
      Out.nx)
    (mSeq (mIfS (mOr (mAnd (mB (mCall (mCons (mV 1) (mCons (mC (.ty "tuple")) mNil)) gIsi)) (mNot (mB (mCall (mCons (mV 0) (mCons (mC (.ty "tuple")) mNil)) gIsi)))) (mAnd (mB (mCall (mCons (mV 1) (mCons (mC (.ty "list")) mNil)) gIsi)) (mNot (mB (mCall (mCons (mV 0) (mCons (mC (.ty "list")) mNil)) gIsi)))))
      (mRet (mC (.bl false)))
      Out.nx)
    (mRet (mAndV (m2 (mCall (mCons (mV 0) mNil) gLen) (mCall (mCons (mV 1) mNil) gLen) opEq) (mCall (mCons (mLc (mRng1 (mCons (mCall (mCons (mV 1) mNil) gLen) mNil)) (pName 2) mYes (e1__law_same rec) [2]) mNil) gAll))))))))
def F__law_same : Nat → Fn
  | 0 => runB 3 fun _ => .stuck
  | n + 1 => runB 3 (b__law_same (F__law_same n))
def l1_Signs_init : DL.Env → Out :=
    (mIfS (mAnd (mB (m2 (mV 2) (mC (.str "$")) opNe)) (mNot (mB (mFn F_is_sign (mCons (mV 2) mNil) 1))))
        (mRaise "SymbolError" ["symbol"] (mCons (mV 2) mNil))
        Out.nx)
def b_Signs_init : DL.Env → Out :=
    (mSeq (mFor (mItems (mV 1)) (pName 2)
      l1_Signs_init)
    (mSetFld 0 ["Signs"] "words" (mCall (mCons (mSortSet (mV 1)) mNil) gTuple)))
def I_Signs_init : IFn := runI 3 "Signs" b_Signs_init
end LW
namespace LW
open PySem L2 DL
end LW
namespace LW
open PySem L2 DL
end LW
namespace DL
open PySem PySem.Spec PyProof.Rows L2
end DL
namespace LW
open PySem L2 DL
end LW
namespace DL
open PySem PySem.Spec PyProof.Rows L2
open L2H (RoomH)
structure FnC (P : Program) (w : World) (K : PySem.W.Frag) (mg : Str → Option Value) (base : Heap) (CX : CXT) (k : Nat) (f : Addr) (fd : FuncData) (ps : List Str) (sp : Sp) : Prop where
  len : ∀ vs H Q E, sp vs H Q E → vs.length = ps.length
  run : ∀ (A : Around) (out : List PySem.Env) (s : Shared) (H : Hp) (args : Args) (us : List Value) (vs : List V) (Q : VK) (E : XK), RoomH k A → Env0 P w K mg base A out s H → BindsTo s fd args (ps.zip us) → Vals vs us → sp vs H Q E → codeAny (model P w) A (.call (.ref f) args) (CR CX out P w H s Q E) s
theorem FnC.imp {P : Program} {w : World} {K : PySem.W.Frag} {mg : Str → Option Value} {base : Heap} {CX : CXT} {k : Nat} {f : Addr} {fd : FuncData} {ps : List Str} {sp sp' : Sp} (F : FnC P w K mg base CX k f fd ps sp) (h : ∀ vs H Q E, sp' vs H Q E → sp vs H Q E) : FnC P w K mg base CX k f fd ps sp' :=
  ⟨fun vs H Q E q => F.len _ _ _ _ (h _ _ _ _ q), fun A out s H args us vs Q E hr he hb hv hs => F.run A out s H args us vs Q E hr he hb hv (h _ _ _ _ hs)⟩
def FnGC (P : Program) (w : World) (K : KC) (mg : Str → Option Value) (base : Heap) (k : Nat) (x : Str) (ps : List Str) (F : Fn) : Prop :=
  ∃ fd, FnC P w K.K mg base (L2.CX P w) k (He.ga K.K x) fd ps (spD K ps.length F) ∧ Binds K.K fd ps [] ∧ PySem.W.keepIn K.K (.ref (He.ga K.K x)) = true ∧ mg x = some (.ref (He.ga K.K x))
theorem FnGC.cx {P : Program} {w : World} {K : PySem.W.Frag} {C C' : CT} {mg : Str → Option Value} {base : Heap} {k : Nat} {x : Str} {ps : List Str} {F : Fn} (h2 : C.cls = C'.cls) (h3 : C.slf = none) (h : FnGC P w ⟨K, C⟩ mg base k x ps F) : FnGC P w ⟨K, C'⟩ mg base k x ps F := by
  obtain ⟨fd, f1, f2, f3, f4⟩ := h
  exact ⟨fd, f1.imp fun vs H Q E z => spD_cx (K := ⟨K, C⟩) (K' := ⟨K, C'⟩) rfl h2 h3 z, f2, f3, f4⟩
end DL
namespace LW
open PySem L2 DL
end LW
namespace SU
open PySem L2
def S5 : Nat → Nat
  | 0 => 0
  | n + 1 => S5 n * 5 + 1
theorem lcg_S5 (m : Nat) : ∀ n, lcgN m n = S5 n % (m + 1)
  | 0 => by show 0 = 0 % (m + 1); simp
  | n + 1 => by
    show (lcgN m n * 5 + 1) % (m + 1) = (S5 n * 5 + 1) % (m + 1)
    rw [lcg_S5 m n, Nat.add_mod, Nat.mod_mul_mod, ← Nat.add_mod]
def MaskG (m : Nat) : Prop := ∃ k, m + 1 = 2 ^ k
end SU
namespace SU
open PySem L2
structure TabG (t : SetTable) (hs : List Int) : Prop where
  ris : Ris t.place.toList
  dm : t.dummies = #[]
  sz : t.place.toList.length = hs.length
  msk : MaskG t.mask
  at' : ∀ (i : Nat) (h : Int) (j : Nat), hs[i]? = some h → t.place.toList[i]? = some j → ∃ k, way t.mask h k = j ∧ ∀ k', k' < k → way t.mask h k' ∈ t.place.toList
variable {t : SetTable} {hs : List Int}
theorem TabG.add (T : TabG t hs) {h : Int} {K : Nat} (hK : way t.mask h K ∉ t.place.toList) (hb : ∀ k, k < K → way t.mask h k ∈ t.place.toList) :
    SetTable.below t.place (way t.mask h K) ≤ hs.length ∧ TabG (t.put (way t.mask h K)).1 (hs.take (SetTable.below t.place (way t.mask h K)) ++ h :: hs.drop (SetTable.below t.place (way t.mask h K))) ∧ (t.put (way t.mask h K)).1.fill = hs.length + 1 := by
  generalize hj : way t.mask h K = j at hK
  have hc := (below_cut T.ris j).1
  have hpl : SetTable.below t.place j ≤ t.place.toList.length := by rw [Array.length_toList]; exact hc
  have hph : SetTable.below t.place j ≤ hs.length := by rw [← T.sz]; exact hpl
  have hnp : t.place[SetTable.below t.place j]? ≠ some j := fun e => hK (List.mem_of_getElem? (by rw [Array.getElem?_toList]; exact e))
  have hpp := put_place t j
  have hlen : (t.put j).1.place.toList.length = hs.length + 1 := by rw [hpp, len_ins _ hpl, T.sz]
  have keep : ∀ x, x ∈ t.place.toList → x ∈ (t.put j).1.place.toList := fun x hx => by rw [hpp]; exact mem_ins.2 (.inr hx)
  refine ⟨hph, ⟨ris_insert T.ris hnp, put_dm T.dm j, by rw [hlen, len_ins _ hph], T.msk, fun i h' j' h1 h2 => ?_⟩, ?_⟩
  · rw [tins_get hs hph] at h1
    rw [hpp, tins_get _ hpl] at h2
    show ∃ k, way t.mask h' k = j' ∧ ∀ k', k' < k → way t.mask h' k' ∈ (t.put j).1.place.toList
    have old : ∀ i0, hs[i0]? = some h' → t.place.toList[i0]? = some j' → ∃ k, way t.mask h' k = j' ∧ ∀ k', k' < k → way t.mask h' k' ∈ (t.put j).1.place.toList := fun i0 a b => by
      obtain ⟨k, e, z⟩ := T.at' i0 h' j' a b
      exact ⟨k, e, fun k' hk' => keep _ (z k' hk')⟩
    split at h1
    · rename_i c
      rw [if_pos c] at h2
      exact old i h1 h2
    · rename_i c
      rw [if_neg c] at h2
      split at h1
      · rename_i d
        rw [if_pos d] at h2
        cases h1; cases h2
        exact ⟨K, hj, fun k' hk' => keep _ (hb k' hk')⟩
      · rename_i d
        rw [if_neg d] at h2
        exact old (i - 1) h1 h2
  · show (t.put j).1.place.size + (t.put j).1.dummies.size = hs.length + 1
    rw [put_dm T.dm j, ← Array.length_toList, hlen]; rfl
end SU
namespace SU
open PySem PySem.Spec PyProof.Rows L2
abbrev mhash (P : Program) (w : World) (k : List Key) : Int := tupleKeyHash (mixKind P w) k
abbrev IsM (P : Program) (w : World) (h : Heap) (k : List Key) (a : Addr) : Prop := IsTupleKey (mixKind P w) h k a
end SU
namespace SU
open PySem L2
theorem lcgI_pow {m x : Nat} (hx : x ≤ m) : ∀ n, lcgI m x n = (x * 5 ^ n + S5 n) % (m + 1)
  | 0 => by
    show x = (x * 1 + 0) % (m + 1)
    rw [Nat.mul_one, Nat.add_zero, Nat.mod_eq_of_lt (by omega)]
  | n + 1 => by
    show (lcgI m x n * 5 + 1) % (m + 1) = _
    rw [lcgI_pow hx n, Nat.add_mod, Nat.mod_mul_mod, ← Nat.add_mod]
    congr 1
    show (x * 5 ^ n + S5 n) * 5 + 1 = x * (5 ^ n * 5) + (S5 n * 5 + 1)
    rw [Nat.add_mul, Nat.mul_assoc, Nat.add_assoc]
def From (w q a : Nat) : Prop := ∀ p, a.testBit p = true → ∃ i d, w.testBit i = true ∧ i < 32759 ∧ d ≤ q ∧ p = i + d
theorem From.or {w q1 q2 q a b : Nat} (h1 : From w q1 a) (h2 : From w q2 b) (e1 : q1 ≤ q) (e2 : q2 ≤ q) : From w q (a ||| b) := fun p h => by
  rw [Nat.testBit_or, Bool.or_eq_true] at h
  rcases h with h | h
  · obtain ⟨i, d, a1, a2, a3, a4⟩ := h1 p h
    exact ⟨i, d, a1, a2, by omega, a4⟩
  · obtain ⟨i, d, a1, a2, a3, a4⟩ := h2 p h
    exact ⟨i, d, a1, a2, by omega, a4⟩
theorem From.sh {w q a : Nat} (h1 : From w q a) (s : Nat) : From w (q + s) (a <<< s) := fun p h => by
  rw [Nat.testBit_shiftLeft, Bool.and_eq_true] at h
  obtain ⟨h0, h⟩ := h
  have h0 : s ≤ p := of_decide_eq_true h0
  obtain ⟨i, d, a1, a2, a3, a4⟩ := h1 _ h
  exact ⟨i, d + s, a1, a2, by omega, by omega⟩
theorem p4096 : 5 ^ 4096 % 32768 = 16385 ∧ S5 4096 % 32768 = 28672 := by refine ⟨?_, ?_⟩ <;> decide +kernel
theorem blk_next (A : Nat) : lcgN 32767 (4096 * (A + 1)) = (lcgN 32767 (4096 * A) * 16385 + 28672) % 32768 := by
  have hx : lcgN 32767 (4096 * A) ≤ 32767 := by rw [lcg_S5]; exact Nat.le_of_lt_succ (Nat.mod_lt _ (by decide))
  rw [show 4096 * (A + 1) = 4096 * A + 4096 by omega, ← lcgN_add, lcgI_pow hx]
  show (_ * 5 ^ 4096 + S5 4096) % 32768 = _
  rw [Nat.add_mod, Nat.mul_mod, p4096.1, p4096.2]
  omega
theorem blk : ∀ A, A < 8 → lcgN 32767 (4096 * A) = [0, 28672, 24576, 20480, 16384, 12288, 8192, 4096].getD A 0 := by
  have h0 : lcgN 32767 (4096 * 0) = 0 := rfl
  have h1 : lcgN 32767 (4096 * (0 + 1)) = 28672 := by
    have := blk_next 0
    rw [show lcgN 32767 (4096 * 0) = 0 from h0] at this
    omega
  have h2 : lcgN 32767 (4096 * (1 + 1)) = 24576 := by
    have := blk_next 1
    rw [show lcgN 32767 (4096 * 1) = 28672 from h1] at this
    omega
  have h3 : lcgN 32767 (4096 * (2 + 1)) = 20480 := by
    have := blk_next 2
    rw [show lcgN 32767 (4096 * 2) = 24576 from h2] at this
    omega
  have h4 : lcgN 32767 (4096 * (3 + 1)) = 16384 := by
    have := blk_next 3
    rw [show lcgN 32767 (4096 * 3) = 20480 from h3] at this
    omega
  have h5 : lcgN 32767 (4096 * (4 + 1)) = 12288 := by
    have := blk_next 4
    rw [show lcgN 32767 (4096 * 4) = 16384 from h4] at this
    omega
  have h6 : lcgN 32767 (4096 * (5 + 1)) = 8192 := by
    have := blk_next 5
    rw [show lcgN 32767 (4096 * 5) = 12288 from h5] at this
    omega
  have h7 : lcgN 32767 (4096 * (6 + 1)) = 4096 := by
    have := blk_next 6
    rw [show lcgN 32767 (4096 * 6) = 8192 from h6] at this
    omega
  intro A hA
  have : A = 0 ∨ A = 1 ∨ A = 2 ∨ A = 3 ∨ A = 4 ∨ A = 5 ∨ A = 6 ∨ A = 7 := by omega
  rcases this with e | e | e | e | e | e | e | e <;> subst e
  · exact h0
  · exact h1
  · exact h2
  · exact h3
  · exact h4
  · exact h5
  · exact h6
  · exact h7
end SU
namespace SU
open PySem PySem.Spec PyProof.Rows L2
def rowsM (P : Program) (w : World) (L : List (Addr × List Key)) : List (Int × Value) := L.map fun p => (mhash P w p.2, Value.ref p.1)
structure SetM (P : Program) (w : World) (h : Heap) (a : Addr) (L : List (Addr × List Key)) (es : Array (Int × Value)) (ep : Nat) (t : SetTable) : Prop where
  ob : ∃ o, h.get? a = some o ∧ o.ExactSet ∧ o.data = .set es ep t
  rows : es.toList = rowsM P w L
  tab : TabG t (L.map fun p => mhash P w p.2)
  nd : (L.map (·.2)).Nodup
  tup : ∀ p ∈ L, IsM P w h p.2 p.1
  room : L.length * 5 < t.mask * 3
section
variable {P : Program} {w : World} {A : Around} {E : Value → Shared → Prop} {s : Shared} {a : Addr} {L : List (Addr × List Key)} {es : Array (Int × Value)} {ep : Nat} {t : SetTable}
theorem SetM.size (R : SetM P w s.heap a L es ep t) : es.size = L.length := by
  have h : es.toList.length = (rowsM P w L).length := congrArg List.length R.rows
  unfold rowsM at h
  rw [List.length_map] at h
  exact h
theorem SetM.plen (R : SetM P w s.heap a L es ep t) : t.place.toList.length = L.length := by
  have := R.tab.sz
  rwa [List.length_map] at this
theorem SetM.fits (R : SetM P w s.heap a L es ep t) : t.fits es.size = true := by
  have h1 : t.place.size = L.length := R.plen
  have h2 := R.size
  have h3 := R.room
  unfold SetTable.fits SetTable.fill
  rw [R.tab.dm, Bool.and_eq_true, beq_iff_eq, decide_eq_true_eq]
  show t.place.size = es.size ∧ t.place.size + 0 ≤ t.mask
  omega
end
end SU
namespace SU
open PySem PySem.Spec PyProof.Rows L2
section
variable {P : Program} {w : World} {A : Around} {E : Value → Shared → Prop} {s : Shared} {a : Addr} {L : List (Addr × List Key)} {es : Array (Int × Value)} {ep : Nat} {t : SetTable}
theorem SetM.typeIs (R : SetM P w s.heap a L es ep t) : s.TypeIs (.ref a) "set" := let ⟨o, ho, hc, _⟩ := R.ob; ⟨o, ho, hc.1⟩
end
end SU
namespace SU
open PySem PySem.Spec PyProof.Rows L2
def Chain (m : Nat) : Prop := m = 7 ∨ m = 31 ∨ m = 127 ∨ m = 511 ∨ m = 2047 ∨ m = 8191 ∨ m = 32767
theorem Chain.le {m : Nat} (h : Chain m) : m ≤ 8191 ∨ m = 32767 := by
  rcases h with e | e | e | e | e | e | e <;> omega
end SU
namespace SU
open PySem PySem.Spec PyProof.Rows L2
structure SetM0 (P : Program) (w : World) (h : Heap) (a : Addr) (L : List (Addr × List Key)) : Prop where
  ex : ∃ (es : Array (Int × Value)) (ep : Nat) (t : SetTable), (∃ o, h.get? a = some o ∧ o.ExactSet ∧ o.data = .set es ep t) ∧ es.toList = rowsM P w L ∧ TabG t (L.map fun p => mhash P w p.2) ∧ (L.map (·.2)).Nodup ∧ L.length * 5 < t.mask * 3 ∧ Chain t.mask
section
variable {P : Program} {w : World}
theorem SetM.own {h : Heap} {a : Addr} {L : List (Addr × List Key)} {es : Array (Int × Value)} {ep : Nat} {t : SetTable} (R : SetM P w h a L es ep t) (c : Chain t.mask) : SetM0 P w h a L :=
  ⟨es, ep, t, R.ob, R.rows, R.tab, R.nd, R.room, c⟩
end
end SU
namespace SU
open PySem PySem.Spec PyProof.Rows L2
section
variable {X : Cx}
theorem SetM0.ty {P : Program} {w : World} {s : Shared} {a : Addr} {L : List (Addr × List Key)} (R : SetM0 P w s.heap a L) : s.TypeIs (.ref a) "set" ∧ ∀ b, Value.ref a = .ref b → ∃ ob, s.heap.get? b = some ob ∧ ob.dict = none := by
  obtain ⟨es, ep, t, ⟨o, ho, hex, hd⟩, _⟩ := R.ex
  exact ⟨⟨o, ho, hex.1⟩, fun b e => by injection e with e; subst e; exact ⟨o, ho, hex.2.1⟩⟩
variable {o e : Expr} {es : List Expr} {to : TE} {t : TA} {apos cpos : Pos}
end
end SU
namespace DL
open PySem PySem.Spec PyProof.Rows L2
def ksD (n : Nat) (F : Fn) : Fn := fun ds => match ds.getLast? with
  | some z => if n + 1 ≤ ds.length then F (ds.dropLast.take n ++ [z, .tup (ds.dropLast.drop n)]) else .stuck
  | none => .stuck
structure FnKS (P : Program) (w : World) (K : PySem.W.Frag) (mg : Str → Option Value) (base : Heap) (k : Nat) (f : Addr) (kn : Str) (dv : V) (sp : Sp) : Prop where
  run0 : ∀ (A : Around) (out : List PySem.Env) (s : Shared) (H : Hp) (us : List Value) (vs : List V) (Q : VK) (E : XK), Room k A → Env0 P w K mg base A out s H → Vals vs us → sp (vs ++ [dv]) H Q E → codeAny (model P w) A (.call (.ref f) ⟨us, []⟩) (CR (L2.CX P w) out P w H s Q E) s
  run1 : ∀ (A : Around) (out : List PySem.Env) (s : Shared) (H : Hp) (us : List Value) (vs : List V) (u : Value) (z : V) (Q : VK) (E : XK), Room k A → Env0 P w K mg base A out s H → Vals vs us → RelV z u → sp (vs ++ [z]) H Q E → codeAny (model P w) A (.call (.ref f) ⟨us, [(kn, u)]⟩) (CR (L2.CX P w) out P w H s Q E) s
theorem FnKS.imp {P : Program} {w : World} {K : PySem.W.Frag} {mg : Str → Option Value} {base : Heap} {k : Nat} {f : Addr} {kn : Str} {dv : V} {sp sp' : Sp} (F : FnKS P w K mg base k f kn dv sp) (h : ∀ vs H Q E, sp' vs H Q E → sp vs H Q E) : FnKS P w K mg base k f kn dv sp' :=
  ⟨fun A out s H us vs Q E hr e0 r q => F.run0 A out s H us vs Q E hr e0 r (h _ _ _ _ q), fun A out s H us vs u z Q E hr e0 r rz q => F.run1 A out s H us vs u z Q E hr e0 r rz (h _ _ _ _ q)⟩
def MeKG (P : Program) (w : World) (K : KC) (mg : Str → Option Value) (base : Heap) (k : Nat) (c m : Str) (n : Nat) (kn : Str) (dv : V) (F : Fn) : Prop :=
  ∃ (Ca f : Addr), K.C.cls c = some Ca ∧ Cls K.K Ca ∧ Meth K.K Ca m f ∧ FnKS P w K.K mg base k f kn dv (fun vs H Q E => ∃ j, j ≤ sizeLine ∧ spD K j (ksD n F) vs H Q E)
theorem MeKG.cx {P : Program} {w : World} {K : PySem.W.Frag} {C C' : CT} {mg : Str → Option Value} {base : Heap} {k n : Nat} {c m kn : Str} {dv : V} {F : Fn} (h2 : C.cls = C'.cls) (h3 : C.slf = none) (h : MeKG P w ⟨K, C⟩ mg base k c m n kn dv F) : MeKG P w ⟨K, C'⟩ mg base k c m n kn dv F := by
  obtain ⟨Ca, f, f1, f2, f3, f4⟩ := h
  exact ⟨Ca, f, h2 ▸ f1, f2, f3, f4.imp fun vs H Q E ⟨j, hj, z⟩ => ⟨j, hj, spD_cx (K := ⟨K, C⟩) (K' := ⟨K, C'⟩) rfl h2 h3 z⟩⟩
theorem EVs.app {K : KC} {Z : Ent} {Hs G H : Hp} : ∀ {vs ws : List V} {es fs : List EV}, EVs K Z Hs G H vs es → EVs K Z Hs G H ws fs → EVs K Z Hs G H (vs ++ ws) (es ++ fs)
  | _, _, _, _, .nil, b => b
  | _, _, _, _, .cons x a, b => .cons x (a.app b)
end DL
namespace DL
open PySem PySem.Spec PyProof.Rows L2
section
variable {K : KC} {Z : Ent} {G H : Hp} {σ : L2.St} {env : Env}
open Classical in
noncomputable def frzAt (G H : Hp) (F : Addr → Prop) : Hp := fun a => if F a ∨ (∃ vs, H a = some (.tup vs)) then H a else G a
theorem frzAt_sub {F : Addr → Prop} (s : Sub G H) : Sub G (frzAt G H F) := fun a o e => by
  unfold frzAt
  split
  · exact s a o e
  · exact e
theorem frzAt_in {F : Addr → Prop} (s : Sub G H) : Sub (frzAt G H F) H := fun a o e => by
  unfold frzAt at e
  split at e
  · exact e
  · exact s a o e
theorem frzAt_tup {F : Addr → Prop} : TupS H (frzAt G H F) := fun a vs e => by
  unfold frzAt
  rw [if_pos (.inr ⟨vs, e⟩)]; exact e
theorem frzAt_at {F : Addr → Prop} {a : Addr} (h : F a) : frzAt G H F a = H a := by
  unfold frzAt
  rw [if_pos (.inl h)]
theorem frzAt_no {F : Addr → Prop} {a : Addr} (h : ¬ F a) (nt : NT H a) : frzAt G H F a = G a := by
  unfold frzAt
  rw [if_neg]
  rintro (z | ⟨vs, z⟩)
  · exact h z
  · obtain ⟨o, e, k⟩ := nt
    rw [z] at e; cases e; cases k
theorem ER.freezeT (er : ER K Z G H σ env) {i : Nat} {s : Bool} {t : T} (hi : env[i]? = some (.tre s t)) : ∃ G', Sub G G' ∧ ER K Z G' H σ (env.set i (.val t.d)) := by
  obtain ⟨v, hs, u, F, rfl, hsl, r, nd⟩ := er.at' i _ hi
  have ow : ∀ a ∈ F, (SL.tre s t).owns H (some u) a := fun a m => ⟨K, G, u, F, rfl, r, m⟩
  have wo : ∀ a, (SL.tre s t).owns H (some u) a → a ∈ F := fun a ⟨K', G', u', F', e, r', m⟩ => by cases e; rw [r.uniq r']; exact m
  refine ⟨frzAt G H (· ∈ F), frzAt_sub er.sub, er.repl hi hs (frzAt_sub er.sub) er.zh (frzAt_in er.sub) (fun a n q nt => ?_) .refl (fun a nt no => ⟨fun _ e => e, fun e => ?_⟩) ⟨u, rfl, r.rep (frzAt_sub er.sub) frzAt_tup fun a m o e => by rw [frzAt_at m]; exact e⟩ fun a oa => oa.elim⟩
  · by_cases ha : a ∈ F
    · exact nt.no (er.own i _ _ a hi hs (ow a ha)).2
    · rw [frzAt_no ha (nt.mono er.zh)] at n; exact er.new a n q nt
  · rw [frzAt_no (fun m => no (ow a m)) nt]; exact e
end
section
variable {K : KC} {G H : Hp}
theorem TReps.split : ∀ {vs : List V} {ts : List T} {F : List Addr} {j : Nat} {t : T}, TReps K G H vs ts F → ts[j]? = some t →
    ∃ v F1 Fj F2, vs[j]? = some v ∧ TRep K G H v t Fj ∧ F = F1 ++ (Fj ++ F2) ∧
      ∀ (G' H' : Hp) (t' : T) (Fj' : List Addr), Sub G G' → TupS H H' → (∀ a, a ∈ F1 ∨ a ∈ F2 → ∀ o, H a = some o → H' a = some o) → TRep K G' H' v t' Fj' → TReps K G' H' vs (ts.set j t') (F1 ++ (Fj' ++ F2))
  | _, _, _, _, _, .nil, e => by simp at e
  | _, _, _, 0, t, .cons (v := v) (F1 := A) (F2 := B) a b, e => by
    simp at e; subst e
    exact ⟨v, [], A, B, rfl, a, rfl, fun G' H' t' Fj' g tp k r => by
      rw [List.nil_append]
      exact .cons r (b.mono g tp fun a m => k a (.inr m))⟩
  | _, _, _, j + 1, t, .cons (v := v) (F1 := A) (F2 := B) a b, e => by
    obtain ⟨v', F1, Fj, F2, h1, h2, h3, h4⟩ := TReps.split (j := j) b (by simpa using e)
    refine ⟨v', A ++ F1, Fj, F2, by simpa using h1, h2, by rw [h3, List.append_assoc], fun G' H' t' Fj' g tp k r => ?_⟩
    rw [List.append_assoc]
    exact .cons (a.mono g tp fun a m => k a (.inl (List.mem_append_left _ m))) (h4 G' H' t' Fj' g tp (fun a m => k a (m.imp (List.mem_append_right _) id)) r)
def tfind (kvs : List (D × T)) (k : D) : Option T := (kvs.find? fun kv => keyEq kv.1 k).map (·.2)
def tput : List (D × T) → D → T → List (D × T)
  | [], _, _ => []
  | (j, u) :: r, k, t => if keyEq j k = true then (j, t) :: r else (j, u) :: tput r k t
theorem TRepK.split {k : Key} : ∀ {vs : List (Key × V)} {ts : List (D × T)} {F : List Addr} {t : T}, TRepK K G H vs ts F → tfind ts (dkV k) = some t →
    ∃ v F1 Fj F2, valV vs k = some v ∧ TRep K G H v t Fj ∧ F = F1 ++ (Fj ++ F2) ∧
      ∀ (G' H' : Hp) (t' : T) (Fj' : List Addr), Sub G G' → TupS H H' → (∀ a, a ∈ F1 ∨ a ∈ F2 → ∀ o, H a = some o → H' a = some o) → TRep K G' H' v t' Fj' → TRepK K G' H' vs (tput ts (dkV k) t') (F1 ++ (Fj' ++ F2))
  | _, _, _, _, .nil, e => by cases e
  | _, _, _, t, .cons (k := j) (v := v) (vs := vs) (t := u) (ts := ts) (F1 := A) (F2 := B) a b, e => by
    unfold tfind at e
    rw [List.find?_cons] at e
    have ek : keyEq (dkV j) (dkV k) = decide (j = k) := keyEq_dk j k
    unfold tput
    rw [ek] at e ⊢
    by_cases z : j = k
    · rw [decide_eq_true z] at e ⊢
      cases e
      refine ⟨v, [], A, B, valV_pos (p := (j, v)) z, a, rfl, fun G' H' t' Fj' g tp q r => ?_⟩
      rw [if_pos rfl, List.nil_append]
      exact .cons r (b.mono g tp fun a m => q a (.inr m))
    · rw [decide_eq_false z] at e ⊢
      obtain ⟨v', F1, Fj, F2, h1, h2, h3, h4⟩ := TRepK.split (k := k) b e
      refine ⟨v', A ++ F1, Fj, F2, by rw [valV_neg (p := (j, v)) z]; exact h1, h2, by rw [h3, List.append_assoc], fun G' H' t' Fj' g tp q r => ?_⟩
      rw [if_neg (by simp), List.append_assoc]
      exact .cons (a.mono g tp fun a m => q a (.inl (List.mem_append_left _ m))) (h4 G' H' t' Fj' g tp (fun a m => q a (m.imp (List.mem_append_right _) id)) r)
theorem TRepK.none {k : Key} : ∀ {vs : List (Key × V)} {ts : List (D × T)} {F : List Addr}, TRepK K G H vs ts F → tfind ts (dkV k) = none → valV vs k = none
  | _, _, _, .nil, _ => rfl
  | _, _, _, .cons (k := j) (v := v) (vs := vs) (t := u) (ts := ts) a b, e => by
    unfold tfind at e
    rw [List.find?_cons] at e
    have ek : keyEq (dkV j) (dkV k) = decide (j = k) := keyEq_dk j k
    rw [ek] at e
    by_cases z : j = k
    · rw [decide_eq_true z] at e; cases e
    · rw [decide_eq_false z] at e
      rw [valV_neg (p := (j, v)) z]
      exact b.none e
theorem TRepK.snoc {k : Key} {v : V} {t : T} {Fv : List Addr} (r : TRep K G H v t Fv) : ∀ {vs : List (Key × V)} {ts : List (D × T)} {F : List Addr}, TRepK K G H vs ts F → TRepK K G H (vs ++ [(k, v)]) (ts ++ [(dkV k, t)]) (F ++ Fv)
  | _, _, _, .nil => by
    have := TRepK.cons (k := k) r (.nil (K := K) (G := G) (H := H))
    rw [List.append_nil] at this; exact this
  | _, _, _, .cons a b => by
    rw [List.append_assoc]
    exact .cons a (b.snoc r)
theorem TReps.snoc {v : V} {t : T} {Fv : List Addr} (r : TRep K G H v t Fv) : ∀ {vs : List V} {ts : List T} {F : List Addr}, TReps K G H vs ts F → TReps K G H (vs ++ [v]) (ts ++ [t]) (F ++ Fv)
  | _, _, _, .nil => by
    have := TReps.cons r (.nil (K := K) (G := G) (H := H))
    rw [List.append_nil] at this; exact this
  | _, _, _, .cons a b => by
    rw [List.append_assoc]
    exact .cons a (b.snoc r)
theorem TReps.leaves : ∀ {vs : List V} {ds : List D} {F : List Addr}, TReps K G H vs (ds.map T.leaf) F → Reps K G vs ds ∧ F = []
  | _, [], _, .nil => ⟨.nil, rfl⟩
  | _, d :: r, _, .cons (.leaf a) b => let ⟨x, y⟩ := b.leaves; ⟨.cons a x, by rw [y]; rfl⟩
theorem Reps.toT : ∀ {vs : List V} {ds : List D}, Reps K G vs ds → TReps K G H vs (ds.map T.leaf) []
  | _, _, .nil => .nil
  | _, _, .cons a b => .cons (F1 := []) (F2 := []) (.leaf a) b.toT
theorem RepF.toT : ∀ {vs : List (Str × V)} {ds : List (Str × D)}, RepF K G vs ds → TRepF K G H vs (ds.map fun p => (p.1, T.leaf p.2)) []
  | _, _, .nil => .nil
  | _, _, .cons a b => .cons (F1 := []) (F2 := []) (.leaf a) b.toT
end
end DL
namespace DL
open PySem PySem.Spec PyProof.Rows L2
section
variable {K : KC} {G H : Hp}
def tputF (f : Str) (t : T) : List (Str × T) → List (Str × T)
  | [] => []
  | (g, u) :: r => if f == g then (g, t) :: r else (g, u) :: tputF f t r
theorem TRepF.split {f : Str} : ∀ {vs : List (Str × V)} {ts : List (Str × T)} {F : List Addr} {t : T}, TRepF K G H vs ts F → ts.lookup f = some t →
    ∃ v F1 Fj F2, vs.lookup f = some v ∧ TRep K G H v t Fj ∧ F = F1 ++ (Fj ++ F2) ∧
      ∀ (G' H' : Hp) (t' : T) (Fj' : List Addr), Sub G G' → TupS H H' → (∀ a, a ∈ F1 ∨ a ∈ F2 → ∀ o, H a = some o → H' a = some o) → TRep K G' H' v t' Fj' → TRepF K G' H' vs (tputF f t' ts) (F1 ++ (Fj' ++ F2))
  | _, _, _, _, .nil, e => by cases e
  | _, _, _, t, .cons (f := g) (v := v) (vs := vs) (t := u) (ts := ts) (F1 := A) (F2 := B) a b, e => by
    rw [List.lookup_cons] at e
    unfold tputF
    rw [List.lookup_cons]
    cases z : (f == g) with
    | true =>
      rw [z] at e
      cases e
      refine ⟨v, [], A, B, rfl, a, rfl, fun G' H' t' Fj' gg tp q r => ?_⟩
      rw [if_pos rfl, List.nil_append]
      exact .cons r (b.mono gg tp fun a m => q a (.inr m))
    | false =>
      rw [z] at e
      obtain ⟨v', F1, Fj, F2, h1, h2, h3, h4⟩ := TRepF.split b e
      refine ⟨v', A ++ F1, Fj, F2, h1, h2, by rw [h3, List.append_assoc], fun G' H' t' Fj' gg tp q r => ?_⟩
      rw [if_neg (by simp), List.append_assoc]
      exact .cons (a.mono gg tp fun a m => q a (.inl (List.mem_append_left _ m))) (h4 G' H' t' Fj' gg tp (fun a m => q a (m.imp (List.mem_append_right _) id)) r)
theorem TRepF.snoc {f : Str} {v : V} {t : T} {Fv : List Addr} (r : TRep K G H v t Fv) : ∀ {vs : List (Str × V)} {ts : List (Str × T)} {F : List Addr}, TRepF K G H vs ts F → TRepF K G H (vs ++ [(f, v)]) (ts ++ [(f, t)]) (F ++ Fv)
  | _, _, _, .nil => by
    have := TRepF.cons (f := f) r (.nil (K := K) (G := G) (H := H))
    rw [List.append_nil] at this; exact this
  | _, _, _, .cons a b => by
    rw [List.append_assoc]
    exact .cons a (b.snoc r)
theorem putF_new {f : Str} {v : V} : ∀ {vs : List (Str × V)}, vs.lookup f = none → putF f v vs = vs ++ [(f, v)]
  | [], _ => rfl
  | (g, x) :: r, e => by
    rw [List.lookup_cons] at e
    unfold putF
    cases z : (f == g) with
    | true => rw [z] at e; cases e
    | false =>
      rw [z] at e
      have : g ≠ f := fun h => by subst h; simp at z
      rw [if_neg this, putF_new e]; rfl
theorem TRepF.length : ∀ {vs : List (Str × V)} {ts : List (Str × T)} {F : List Addr}, TRepF K G H vs ts F → vs.length = ts.length
  | _, _, _, .nil => rfl
  | _, _, _, .cons _ b => congrArg Nat.succ b.length
theorem TReps.length : ∀ {vs : List V} {ts : List T} {F : List Addr}, TReps K G H vs ts F → vs.length = ts.length
  | _, _, _, .nil => rfl
  | _, _, _, .cons _ b => congrArg Nat.succ b.length
end
end DL
namespace DL
open PySem PySem.Spec PyProof.Rows L2
section
variable {K : KC} {Z : Ent} {G H : Hp} {σ : L2.St} {env : Env}
theorem ER.putT (er : ER K Z G H σ env) {i : Nat} {s : Bool} {t t' : T} {u : V} {F F' : List Addr} {l : Addr} {o : HO} (hi : env[i]? = some (.tre s t)) (hs : σ[i]? = some (some u)) (r : TRep K G H u t F) (hl : l ∈ F) (r' : TRep K G (L2.upd H l o) u t' F') (nd : F'.Nodup)
    (gd : ∀ a ∈ F', a ∈ F ∨ (G a = none ∧ Z.H a = none ∧ Free H σ env a)) : ER K Z G (L2.upd H l o) σ (env.set i (.tre s t')) := by
  have ow : ∀ a ∈ F, (SL.tre s t).owns H (some u) a := fun a m => ⟨K, G, u, F, rfl, r, m⟩
  obtain ⟨gl, zl⟩ := er.own i _ _ l hi hs (ow l hl)
  obtain ⟨v, h1, u', F0, rfl, sl, _, _⟩ := er.at' i _ hi
  rw [hs] at h1; cases h1
  refine er.repl hi hs .refl (er.zh.updR zl) (er.sub.updR gl) er.new (.put (er.nt hi hs (ow l hl))) (fun a nt no => ⟨fun o' e => ?_, id⟩) ⟨u, F', rfl, sl, r', nd⟩ fun a oa => ?_
  · have : a ≠ l := fun h => no (by subst h; exact ow _ hl)
    rw [upd_ne this]; exact e
  · obtain ⟨K', G', u', F'', e, r'', m⟩ := oa
    cases e
    rw [r''.uniq r'] at m
    rcases gd a m with h | ⟨g, z, f⟩
    · obtain ⟨g, z⟩ := er.own i _ _ a hi hs (ow a h)
      exact ⟨g, z, .inl (ow a h)⟩
    · exact ⟨g, z, .inr f⟩
end
end DL
namespace DL
open PySem PySem.Spec PyProof.Rows L2
structure GT (K : KC) (Z : Ent) (G1 H1 : Hp) (LD : Addr) (G' H' : Hp) (avs : List V) (acc : List T) (F : List Addr) : Prop where
  x : Ext G1 (upd H1 LD (.lst [])) G' (upd H' LD (.lst []))
  l : H' LD = some (.lst avs)
  g : G' LD = none
  r : TReps K G' H' avs acc F
  nd : F.Nodup
  gd : ∀ a ∈ F, G' a = none ∧ Z.H a = none ∧ H1 a = none ∧ a ≠ LD
theorem GT.step {K : KC} {Z : Ent} {G1 H1 G2 H2 G5 H5 : Hp} {LD : Addr} {avs : List V} {acc : List T} {F : List Addr} (h : GT K Z G1 H1 LD G2 H2 avs acc F) (y : Ext G2 H2 G5 H5) : GT K Z G1 H1 LD G5 H5 avs acc F := by
  have hg5 : G5 LD = none := y.n LD h.g ⟨_, h.l, rfl⟩
  refine ⟨⟨h.x.g.trans y.g, fun a o k => ?_, y.s.updR hg5, fun a k n => ?_⟩, y.h _ _ h.l, hg5, h.r.mono y.g y.h.tupS fun a _ o e => y.h a o e, h.nd, fun a m => ⟨y.n a (h.gd a m).1 (h.r.nt a m), (h.gd a m).2⟩⟩
  · by_cases ha : a = LD
    · subst ha; rw [upd_same] at k ⊢; exact k
    · have := h.x.h a o k
      rw [upd_ne ha] at this ⊢
      exact y.h a o this
  · by_cases ha : a = LD
    · rw [ha]; exact hg5
    · refine y.n a (h.x.n a k n) ?_
      obtain ⟨o, e, z⟩ := n.mono h.x.h
      rw [upd_ne ha] at e
      exact ⟨o, e, z⟩
theorem GT.put {K : KC} {Z : Ent} {G1 H1 G2 H2 : Hp} {LD q : Addr} {avs : List V} {acc : List T} {F : List Addr} {y : T} (h : GT K Z G1 H1 LD G2 H2 avs acc F) (r : TRep K G2 H2 (.ref q) y [q]) (gd : G2 q = none ∧ Z.H q = none ∧ H1 q = none ∧ q ≠ LD) (hq : q ∉ F) :
    GT K Z G1 H1 LD G2 (upd H2 LD (.lst (avs ++ [.ref q]))) (avs ++ [.ref q]) (acc ++ [y]) (F ++ [q]) := by
  have tp : TupS H2 (upd H2 LD (.lst (avs ++ [.ref q]))) := .put ⟨_, h.l, rfl⟩
  refine ⟨by rw [upd_upd]; exact h.x, upd_same, h.g, ?_, ?_, fun a m => ?_⟩
  · exact (h.r.mono .refl tp fun a m o e => by rw [upd_ne (h.gd a m).2.2.2]; exact e).snoc (r.mono .refl tp fun a m o e => by
      have : a = q := by simpa using m
      subst this
      rw [upd_ne gd.2.2.2]; exact e)
  · rw [List.nodup_append]
    exact ⟨h.nd, by simp, fun a m b mb z => by
      have : b = q := by simpa using mb
      subst this; subst z; exact hq m⟩
  · rcases List.mem_append.mp m with m | m
    · exact h.gd a m
    · have : a = q := by simpa using m
      subst this; exact gd
end DL
namespace DL
open PySem PySem.Spec PyProof.Rows L2
section
variable {K : KC} {Z : Ent} {G H : Hp} {σ : L2.St} {env : Env}
theorem nd_mid {A B C : List Addr} (h : (A ++ (B ++ C)).Nodup) : B.Nodup ∧ (∀ a ∈ B, a ∉ A ∧ a ∉ C) ∧ (∀ a ∈ A, a ∉ C) := by
  rw [List.nodup_append] at h
  obtain ⟨h1, h2, h3⟩ := h
  rw [List.nodup_append] at h2
  obtain ⟨h4, h5, h6⟩ := h2
  exact ⟨h4, fun a m => ⟨fun n => h3 a n a (List.mem_append_left _ m) rfl, fun n => h6 a m a n rfl⟩, fun a m n => h3 a m a (List.mem_append_right _ n) rfl⟩
theorem TRepK.length : ∀ {vs : List (Key × V)} {ts : List (D × T)} {F : List Addr}, TRepK K G H vs ts F → vs.length = ts.length
  | _, _, _, .nil => rfl
  | _, _, _, .cons _ b => congrArg Nat.succ b.length
end
end DL
namespace DL
open PySem PySem.Spec PyProof.Rows L2
end DL
namespace DL
open PySem PySem.Spec PyProof.Rows L2
end DL
namespace DL
open PySem PySem.Spec PyProof.Rows L2
end DL
namespace L2
open PySem PySem.Spec PyProof.Rows
end L2
namespace DL
open PySem PySem.Spec PyProof.Rows L2
end DL
namespace DL
open PySem PySem.Spec PyProof.Rows L2
end DL
namespace DL
open PySem PySem.Spec PyProof.Rows L2
end DL
namespace DL
open PySem PySem.Spec PyProof.Rows L2
section
variable {X : Cx} {C : CT} {W : WX}
def kin (k : List Key) (ks : List (List Key)) : Bool := ks.any fun j => decide (j = k)
end
end DL
namespace DL
open PySem PySem.Spec PyProof.Rows L2
def TItO (a it : Addr) : HO := .ext fun h => h.IsTupleIter it a 0
theorem hok_drop {P : Program} {w : World} {H : Hp} {h : Heap} {p : Addr} {φ : Heap → Prop} (x : HOk P w (upd H p (.ext φ)) h) (n : H p = none) : HOk P w H h := fun a o e => by
  have hne : a ≠ p := fun z => by rw [z, n] at e; cases e
  refine (x a o (by rw [upd_ne hne]; exact e)).stay (fun b u _ q => q) (fun b q => ?_) fun b xs q => ?_
  · by_cases hb : b = p
    · rw [hb, upd_same] at q; cases q
    · rw [upd_ne hb] at q; exact q
  · by_cases hb : b = p
    · rw [hb, upd_same] at q; cases q
    · rw [upd_ne hb] at q; exact q
theorem inv_drop {X : Cx} {pins : List (Addr × Obj)} {σ : L2.St} {H : Hp} {s : Shared} {p : Addr} {φ : Heap → Prop} (I : Inv X pins σ (upd H p (.ext φ)) s) (n : H p = none) : Inv X pins σ H s := by
  have back : ∀ {b : Addr} {o : HO}, upd H p (.ext φ) b = some o → (∀ ψ, o ≠ .ext ψ) → H b = some o := fun {b o} e z => by
    by_cases hb : b = p
    · rw [hb, upd_same] at e; cases e; exact absurd rfl (z φ)
    · rw [upd_ne hb] at e; exact e
  have less : ∀ b, upd H p (.ext φ) b = none → H b = none := fun b e => by
    by_cases hb : b = p
    · rw [hb]; exact n
    · rw [upd_ne hb] at e; exact e
  refine I.un (t' := s.toks) ⟨fun b o e _ _ _ => e, fun b o e _ _ _ => ⟨o.slots, e⟩, fun b o _ e _ => less b e, fun b o e _ => ⟨o, e⟩, fun b xs e => back e (fun ψ z => by cases z), fun b o u e => back e (fun ψ z => by cases z), fun b ps e => ⟨#[], by rw [back e (fun ψ z => by cases z)]; simp⟩⟩ (hok_drop I.hok n)
section
variable {P : Program} {w : World} {K : PySem.W.Frag} {mg : Str → Option Value} {base : Heap}
theorem enter_fn {CX : CXT} {x qual : Str} {params : Arguments} {body : List Stmt} {scope : Scope} {dvs : List V} {kws : List (Str × V)} {f : Addr} {fd : FuncData} {N ps : List Str} {k : Nat} {A : Around} {outer : List PySem.Env} {s : Shared} {H : Hp} {args : Args} {us : List Value} {vs : List V} {Q : VK} {E : XK}
    (F : FunD K x qual params body scope dvs kws f fd) (S : FnScope N ps scope) (hr : Room (k + 1) A) (env0 : Env0 P w K mg base A outer s H) (hb : BindsTo s fd args (ps.zip us)) (rv : Vals vs us) (hl : vs.length = ps.length)
    (go : ∀ cdv, Room k (A.deeper (envOfC qual scope s.heap.objs.size f cdv)) → ∃ t, PSs (cxOf CX P w K mg base N qual scope f cdv A outer s H E) body t ∧ t { nx := fun _ H' => Q .non H', rt := Q } (start N vs) H) :
    codeAny (model P w) A (.call (.ref f) args) (CR CX outer P w H s Q E) s := by
  obtain ⟨oc, od, dV, kV, doc, pm, an, cdv, ct, osl, rfl, lk, hcd, _, _⟩ := F.ex
  have kin : K.In s.heap := env0.mod.kin.keeps fun b o e => (env0.bs b o e).1
  have nol : s.heap.NoLimit := env0.mod.nolimit.keeps fun b o e => (env0.bs b o e).1
  have loc : ∀ y ∈ ps.zip us, scope.names.lookup y.1 = some .local ∨ (scope.names.lookup y.1 = some .cell ∧ ((cellsFrom (s.heap.objs.size + 1) scope.names []).lookup y.1).isSome = true) := fun y hy =>
    (S.par y.1 (List.of_mem_zip (a := y.1) (b := y.2) hy).1).elim .inl fun q => .inr ⟨q, PySem.W.cellsFrom_some _ _ _ (.inl q)⟩
  refine codeAny_call_function hr.depth (kin _ _ lk) rfl S.co S.gen rfl (PySem.W.codeRec_of kin hcd) (hb _ _ _ _ (wpAny_newFunctionEnv_cells S.kind loc fun env he s1 ic => ?_))
  subst he
  refine ⟨nol.keeps ic.toInCall.keep, codeAny_func ?_⟩
  obtain ⟨t, ht, hq⟩ := go cdv (hr.deeper _)
  refine wpAny_mono (ht.run [] s1 (start N vs) H _ (inv_start S hr.hd env0 hl rv ic) hq) (fun fl s' hs => ?_) fun e s' hs => hs
  cases fl with
  | brk => obtain ⟨_, _, _, q⟩ := hs; exact q.elim
  | cont => obtain ⟨_, _, _, q⟩ := hs; exact q.elim
  | next => obtain ⟨σ', H', J, q⟩ := hs; exact ⟨V.non, H', J.os, J.bare, J.base, J.hok, rfl, q⟩
  | ret u => obtain ⟨v, σ', H', J, rv, q⟩ := hs; exact ⟨v, H', J.os, J.bare, J.base, J.hok, rv, q⟩
def OIt (P : Program) (w : World) (K : KC) (mg : Str → Option Value) (base : Heap) (k : Nat) (c fld : Str) : Prop :=
  ∃ (Ca f : Addr) (fd : FuncData), K.C.cls c = some Ca ∧ Meth K.K Ca "__iter__" f ∧ Binds K.K fd ["self"] [] ∧
    ∀ (A : Around) (outer : List PySem.Env) (s : Shared) (G H : Hp) (Q : VK) (E : XK) (x : Addr) (fs : List (Str × D)) (ds : List D), Room k A → Env0 P w K.K mg base A outer s H → BindsTo s fd ⟨[.ref x], []⟩ ((["self"] : List Str).zip [Value.ref x]) → Sub G H → Rep K G (.ref x) (.ins c fs) →
      fs.lookup fld = some (.tup ds) → (∀ G1 H1 a it ws, Ext G H G1 H1 → G1 a = some (.tup ws) → Reps K G1 ws ds → H1 it = none → s.heap.objs.size ≤ it → Q (.ref it) (upd H1 it (TItO a it))) →
      codeAny (model P w) A (.call (.ref f) ⟨[.ref x], []⟩) (CR (L2.CX P w) outer P w H s Q E) s
end
end DL
namespace DL
open PySem PySem.Spec PyProof.Rows L2
def gLV : EV → Rz EV := fun a => match dOf a with
  | .ok (false, kvs) => .ok (.ow true (.lst (kvs.map (·.2))))
  | _ => .stuck
@[simp] theorem gLV_fz (l : Bool) (kvs : List (D × D)) : gLV (.fz (.dct false l kvs)) = .ok (.ow true (.lst (kvs.map (·.2)))) := rfl
section
variable {P : Program} {w : World} {mg : Str → Option Value} {base : Heap}
theorem OIt.cx {K : PySem.W.Frag} {C C' : CT} {k : Nat} {c fld : Str} (h2 : C.cls = C'.cls) (h : OIt P w ⟨K, C⟩ mg base k c fld) : OIt P w ⟨K, C'⟩ mg base k c fld := by
  obtain ⟨Ca, f, fd, h3, h4, h5, h6⟩ := h
  exact ⟨Ca, f, fd, h2 ▸ h3, h4, h5, fun A outer s G H Q E x fs ds hr e0 hb sg rx hl q => h6 A outer s G H Q E x fs ds hr e0 hb sg (Rep.cx (K := ⟨K, C'⟩) (K' := ⟨K, C⟩) rfl h2.symm rx) hl
    fun G1 H1 a it ws x1 g r n le => q G1 H1 a it ws x1 g (Reps.cx (K := ⟨K, C⟩) (K' := ⟨K, C'⟩) rfl h2 r) n le⟩
end
end DL
namespace DL
open PySem PySem.Spec PyProof.Rows L2
end DL
namespace L2
open PySem PySem.Spec PyProof.Rows
end L2
namespace DL
open PySem PySem.Spec PyProof.Rows L2
end DL
namespace DL
open PySem PySem.Spec PyProof.Rows L2
inductive CP : List (Option Expr) → List Expr → List (Str × Str) → Prop
  | nil : CP [] [] []
  | cons {x y : Str} {j j' : Nat} {p p' : Pos} {ks : List (Option Expr)} {vs : List Expr} {kvs : List (Str × Str)} : CP ks vs kvs → CP (some (.Constant (.str x) j p) :: ks) (.Constant (.str y) j' p' :: vs) ((x, y) :: kvs)
theorem CP.all {ks : List (Option Expr)} {vs : List Expr} {kvs : List (Str × Str)} (h : CP ks vs kvs) : ks.all (·.isSome) = true ∧ ks.length = vs.length ∧ ks.length = kvs.length := by
  induction h with
  | nil => exact ⟨rfl, rfl, rfl⟩
  | cons _ ih => exact ⟨by rw [List.all_cons, ih.1]; rfl, by rw [List.length_cons, List.length_cons, ih.2.1], by rw [List.length_cons, List.length_cons, ih.2.2]⟩
end DL
namespace DL
open PySem PySem.Spec PyProof.Rows L2
end DL
namespace DL
open PySem PySem.Spec PyProof.Rows L2
end DL
namespace LW
open PySem L2 DL
end LW
namespace DL
open PySem PySem.Spec PyProof.Rows L2
end DL
namespace LW
open PySem L2 DL
end LW
namespace DL
open PySem PySem.Spec PyProof.Rows L2
inductive RS (α : Type) where
  | ok (a : α) (env : Env) | exc (e : Exn) (env : Env) | stuck
def RS.bind {α β : Type} (x : RS α) (f : α → Env → RS β) : RS β := match x with
  | .ok a env => f a env
  | .exc e env => .exc e env
  | .stuck => .stuck
@[simp] theorem RS.bind_ok {α β : Type} (a : α) (env : Env) (f : α → Env → RS β) : (RS.ok a env).bind f = f a env := rfl
@[simp] theorem RS.bind_exc {α β : Type} (e : Exn) (env : Env) (f : α → Env → RS β) : (RS.exc e env : RS α).bind f = .exc e env := rfl
@[simp] theorem RS.bind_stuck {α β : Type} (f : α → Env → RS β) : (RS.stuck : RS α).bind f = .stuck := rfl
def GM (K : KC) (W : WX) (Z : Ent) (G : Hp) (σ : L2.St) {α : Type} (R : Hp → Hp → α → Prop) : RS α → Prop
  | .ok a env' => ∀ G' H', Sub G G' → ER K Z G' H' σ env' → R G' H' a
  | .exc e env' => ∀ cls dd G' H', Sub G G' → ER K Z G' H' σ env' → ExcOk K G' H' cls dd e → W cls dd σ H'
  | .stuck => False
theorem GM.mono {K : KC} {W : WX} {Z : Ent} {G G1 : Hp} {σ : L2.St} {α : Type} {R : Hp → Hp → α → Prop} {x : RS α} (s : Sub G G1) (h : GM K W Z G σ R x) : GM K W Z G1 σ R x := by
  cases x with
  | ok a env => exact fun G' H' s' er => h G' H' (s.trans s') er
  | exc e env => exact fun cls dd G' H' s' er => h cls dd G' H' (s.trans s') er
  | stuck => exact h
theorem GM.imp {K : KC} {W : WX} {Z : Ent} {G : Hp} {σ : L2.St} {α : Type} {R R' : Hp → Hp → α → Prop} {x : RS α} (h : GM K W Z G σ R x) (k : ∀ G' H' a, R G' H' a → R' G' H' a) : GM K W Z G σ R' x := by
  cases x with
  | ok a env => exact fun G' H' s' er => k _ _ _ (h G' H' s' er)
  | exc e env => exact h
  | stuck => exact h
theorem GM.seq {K : KC} {W : WX} {Z : Ent} {G : Hp} {σ : L2.St} {α β : Type} {R : Hp → Hp → β → Prop} {x : RS α} {f : α → Env → RS β} (h : GM K W Z G σ R (x.bind f)) :
    GM K W Z G σ (fun G' H' a => ∀ env', x = .ok a env' → ER K Z G' H' σ env' → GM K W Z G' σ R (f a env')) x := by
  cases x with
  | ok a env =>
    intro G' H' s er env' e er'
    cases e
    exact GM.mono s h
  | exc e env => exact h
  | stuck => exact h
def tM (K : KC) (W : WX) (m : Env → RS D) : TE := fun σ H Q => ∃ Z G env, ER K Z G H σ env ∧ GM K W Z G σ (fun G' H' d => ∀ v, Rep K G' v d → Q v H') (m env)
def tMT (K : KC) (W : WX) (m : Env → RS Bool) : TT := fun σ H Q => ∃ Z G env, ER K Z G H σ env ∧ GM K W Z G σ (fun _ H' b => Q b H') (m env)
structure DM (X : Cx) (C : CT) (W : WX) (e : Expr) (m : Env → RS D) : Prop where
  pe : PE X e (tM (kc X C) W m)
structure DMT (X : Cx) (C : CT) (W : WX) (e : Expr) (m : Env → RS Bool) : Prop where
  pt : PT X e (tMT (kc X C) W m)
structure DMW (X : Cx) (C : CT) (W : WX) (e : Expr) (m : Env → RS Bool) : Prop where
  pw : PW X e (tMT (kc X C) W m)
section
variable {X : Cx} {C : CT} {W : WX}
theorem DMW.dt {e : Expr} {m : Env → RS Bool} (h : DMW X C W e m) : DMT X C W e m := ⟨h.pw.pt⟩
def onM {α : Type} (m : Env → RS α) (f : α → Env → Out) : Env → Out := fun env => match m env with
  | .ok a env1 => f a env1
  | .exc e env1 => .exc e env1
  | .stuck => .stuck
theorem onM_go {α : Type} {m : Env → RS α} {f : α → Env → Out} {D : Ends} {σ : L2.St} {H : Hp} (h : tS (kc X C) W (onM m f) D σ H) : ∃ Z G env, ER (kc X C) Z G H σ env ∧ GM (kc X C) W Z G σ (fun G' H' a => ∃ env', ER (kc X C) Z G' H' σ env' ∧ Post (kc X C) W Z D G' (f a env')) (m env) := by
  obtain ⟨Z, G, env, er, q⟩ := h
  refine ⟨Z, G, env, er, ?_⟩
  unfold onM at q
  cases hm : m env with
  | stuck => rw [hm] at q; exact q
  | exc e env1 => rw [hm] at q; exact fun cls dd G' H' s er' k => q σ H' G' cls dd s er' k
  | ok a env1 => rw [hm] at q; exact fun G' H' s er' => ⟨env1, er', Post.mono s q⟩
def mDropM (m : Env → RS D) : Env → Out := onM m fun _ env => .nx env
theorem ds_exprM {e : Expr} {m : Env → RS D} {pos : Pos} (h : DM X C W e m) (hs : swapsWith e none pos.line X.env = pure false := by rfl) : DS X C W (.Expr e pos) (mDropM m) :=
  ⟨PS.imp (ps_expr h.pe hs) fun D σ H h => by
    obtain ⟨Z, G, env, er, q⟩ := onM_go h
    exact ⟨Z, G, env, er, q.imp fun G' H' a ⟨env', er', q'⟩ v rv => q' σ H' G' .refl er'⟩⟩
end
end DL
namespace DL
open PySem PySem.Spec PyProof.Rows L2
inductive RM where
  | ok (d : D) (fs : List (Str × D)) | exc (e : Exn) (fs : List (Str × D)) | stuck
abbrev FnM := List (Str × D) → List D → RM
def spM (K : KC) (c : Str) (n : Nat) (F : FnM) : Sp := fun vs H Q E => ∃ (p : Addr) (ws : List V) (G : Hp) (fs : List (Str × D)) (ds : List D), vs = .ref p :: ws ∧ WOk K G H p (.ins c fs) ∧ G p = none ∧ Sub G H ∧ Reps K G ws ds ∧ ds.length = n ∧
  match F fs ds with
  | .ok d fs' => ∀ v G' H', Mkd G H p G' H' → Rep K G' v d → WOk K G' H' p (.ins c fs') → G' p = none → Q v H'
  | .exc e fs' => ∀ cls dd G' H', Mkd G H p G' H' → ExcOk K G' H' cls dd e → WOk K G' H' p (.ins c fs') → G' p = none → E cls dd H'
  | .stuck => False
theorem WOk.insCx {K K' : KC} (h1 : K.K = K'.K) (h2 : K.C.cls = K'.C.cls) {G H : Hp} {p : Addr} {c : Str} {fs : List (Str × D)} (x : WOk K G H p (.ins c fs)) : WOk K' G H p (.ins c fs) := by
  obtain ⟨Ca, dx, vs, q, e, r⟩ := x
  exact ⟨Ca, dx, vs, h2 ▸ q, e, r.cx h1 h2⟩
theorem spM_cx {K K' : KC} (h1 : K.K = K'.K) (h2 : K.C.cls = K'.C.cls) {c : Str} {n : Nat} {F : FnM} {vs : List V} {H : Hp} {Q : VK} {E : XK} (h : spM K' c n F vs H Q E) : spM K c n F vs H Q E := by
  obtain ⟨p, ws, G, fs, ds, e, wo, g, s, r, l, q⟩ := h
  refine ⟨p, ws, G, fs, ds, e, wo.insCx h1.symm h2.symm, g, s, Reps.cx h1.symm h2.symm r, l, ?_⟩
  cases hF : F fs ds with
  | stuck => rw [hF] at q; exact q
  | exc e fs' => rw [hF] at q; exact fun cls dd G' H' m k w g' => q cls dd G' H' m (k.cx h1 h2) (w.insCx h1 h2) g'
  | ok d fs' => rw [hF] at q; exact fun v G' H' m k w g' => q v G' H' m (k.cx h1 h2) (w.insCx h1 h2) g'
def FnGM (P : Program) (w : World) (K : KC) (mg : Str → Option Value) (base : Heap) (k : Nat) (x c : Str) (ps : List Str) (F : FnM) : Prop :=
  ∃ fd, FnOk P w K.K mg base (L2.CX P w) k (He.ga K.K x) fd ps (spM K c (ps.length - 1) F) ∧ Binds K.K fd ps [] ∧ PySem.W.keepIn K.K (.ref (He.ga K.K x)) = true ∧ mg x = some (.ref (He.ga K.K x))
def MeM (P : Program) (w : World) (K : KC) (mg : Str → Option Value) (base : Heap) (k : Nat) (c m : Str) (n : Nat) (F : FnM) : Prop :=
  ∃ (Ca f : Addr) (fd : FuncData) (ps : List Str), K.C.cls c = some Ca ∧ Cls K.K Ca ∧ Meth K.K Ca m f ∧ FnOk P w K.K mg base (L2.CX P w) k f fd ps (spM K c n F) ∧ Binds K.K fd ps []
theorem FnGM.cx {P : Program} {w : World} {K : PySem.W.Frag} {C C' : CT} {mg : Str → Option Value} {base : Heap} {k : Nat} {x c : Str} {ps : List Str} {F : FnM} (h2 : C.cls = C'.cls) (h : FnGM P w ⟨K, C⟩ mg base k x c ps F) : FnGM P w ⟨K, C'⟩ mg base k x c ps F := by
  obtain ⟨fd, f1, f2, f3, f4⟩ := h
  exact ⟨fd, f1.imp fun vs H Q E z => spM_cx (K := ⟨K, C⟩) (K' := ⟨K, C'⟩) rfl h2 z, f2, f3, f4⟩
theorem MeM.cx {P : Program} {w : World} {K : PySem.W.Frag} {C C' : CT} {mg : Str → Option Value} {base : Heap} {k n : Nat} {c m : Str} {F : FnM} (h2 : C.cls = C'.cls) (h : MeM P w ⟨K, C⟩ mg base k c m n F) : MeM P w ⟨K, C'⟩ mg base k c m n F := by
  obtain ⟨Ca, f, fd, ps, f1, f2, f3, f4, f5⟩ := h
  exact ⟨Ca, f, fd, ps, h2 ▸ f1, f2, f3, f4.imp fun vs H Q E z => spM_cx (K := ⟨K, C⟩) (K' := ⟨K, C'⟩) rfl h2 z, f5⟩
end DL
namespace DL
open PySem PySem.Spec PyProof.Rows L2
def PrG (P : Program) (w : World) (K : KC) (mg : Str → Option Value) (base : Heap) (k : Nat) (c f : Str) (F : Fn) : Prop :=
  ∃ (Ca p g : Addr) (fd : FuncData) (ps : List Str), K.C.cls c = some Ca ∧ Cls K.K Ca ∧ PropOf K.K Ca f p g ∧ FnOk P w K.K mg base (L2.CX P w) k g fd ps (spD K 1 F) ∧ Binds K.K fd ps []
theorem PrG.cx {P : Program} {w : World} {K : PySem.W.Frag} {C C' : CT} {mg : Str → Option Value} {base : Heap} {k : Nat} {c f : Str} {F : Fn} (h2 : C.cls = C'.cls) (h3 : C.slf = none) (h : PrG P w ⟨K, C⟩ mg base k c f F) : PrG P w ⟨K, C'⟩ mg base k c f F := by
  obtain ⟨Ca, p, g, fd, ps, f1, f2, f3, f4, f5⟩ := h
  exact ⟨Ca, p, g, fd, ps, h2 ▸ f1, f2, f3, f4.imp fun vs H Q E z => spD_cx (K := ⟨K, C⟩) (K' := ⟨K, C'⟩) rfl h2 h3 z, f5⟩
def noX : Rz EV → Rz EV
  | .exc _ => .stuck
  | r => r
@[simp] theorem noX_ok (ev : EV) : noX (.ok ev) = .ok ev := rfl
section
variable {X : Cx} {C : CT} {W : WX}
theorem passF : Passes (L2.CX X.prog X.w) X.nox (fun _ _ _ => False) := fun pins σ H s e s' I ⟨a, B, H', cls, d, _, _, _, _, _, _, _, h⟩ => h.elim
end
end DL
namespace DL
open PySem PySem.Spec PyProof.Rows L2
end DL
namespace LW
open PySem L2 DL
end LW
namespace DL
open PySem PySem.Spec PyProof.Rows L2
end DL
namespace L2
open PySem PySem.Spec PyProof.Rows
end L2
namespace DL
open PySem PySem.Spec PyProof.Rows L2
end DL
namespace DL
open PySem PySem.Spec PyProof.Rows L2
end DL
namespace DL
open PySem PySem.Spec PyProof.Rows L2
def leafP (kvs : List (D × D)) : List (D × T) := kvs.map fun p => (p.1, T.leaf p.2)
def leavesK : List (D × T) → Option (List (D × D))
  | [] => some []
  | (k, .leaf d) :: r => (leavesK r).map ((k, d) :: ·)
  | _ :: _ => none
theorem leavesK_map : ∀ kvs : List (D × D), leavesK (leafP kvs) = some kvs
  | [] => rfl
  | (k, d) :: r => by
    show (leavesK (leafP r)).map ((k, d) :: ·) = _
    rw [leavesK_map r]; rfl
theorem leavesK_eq : ∀ {us : List (D × T)} {kvs : List (D × D)}, leavesK us = some kvs → us = leafP kvs
  | [], _, h => by cases h; rfl
  | (k, .leaf d) :: r, kvs, h => by
    rw [leavesK] at h
    cases q : leavesK r with
    | none => rw [q] at h; cases h
    | some es => rw [q] at h; cases h; rw [leavesK_eq q]; rfl
section
variable {K : KC} {G H : Hp}
theorem TRepT.leaves : ∀ {vs : List (List Key × V)} {kvs : List (D × D)} {F : List Addr}, TRepT K G H vs (leafP kvs) F → RepT K G vs kvs ∧ F = []
  | _, [], _, .nil => ⟨.nil, rfl⟩
  | _, (_, d) :: r, _, .cons (.leaf a) b => let ⟨x, y⟩ := b.leaves (kvs := r); ⟨.cons a x, by rw [y]; rfl⟩
theorem RepT.toT : ∀ {vs : List (List Key × V)} {kvs : List (D × D)}, RepT K G vs kvs → TRepT K G H vs (leafP kvs) []
  | _, _, .nil => .nil
  | _, _, .cons a b => .cons (F1 := []) (F2 := []) (.leaf a) b.toT
end
def fldTK (cs : List Str) (f : Str) : SL → Option (Bool × Str × List (Str × T) × List (D × D))
  | .tre s (.ins c ts) => if c ∈ cs then (match ts.lookup f with
    | some (.dct true false us) => (leavesK us).map fun kvs => (s, c, ts, kvs)
    | _ => none) else none
  | _ => none
theorem fldTK_inv {cs : List Str} {f : Str} {x : SL} {s : Bool} {c : Str} {ts : List (Str × T)} {kvs : List (D × D)} (h : fldTK cs f x = some (s, c, ts, kvs)) : x = .tre s (.ins c ts) ∧ c ∈ cs ∧ ts.lookup f = some (.dct true false (leafP kvs)) := by
  unfold fldTK at h
  split at h
  · split at h
    · split at h
      · rename_i hcc _ us hl
        cases q : leavesK us with
        | none => rw [q] at h; cases h
        | some k => rw [q] at h; cases h; rw [leavesK_eq q] at hl; exact ⟨rfl, hcc, hl⟩
      · cases h
    · cases h
  · cases h
theorem fldTK_go {cs : List Str} {f c : Str} {s : Bool} {ts : List (Str × T)} {kvs : List (D × D)} (hc : c ∈ cs) (h : ts.lookup f = some (.dct true false (leafP kvs))) : fldTK cs f (.tre s (.ins c ts)) = some (s, c, ts, kvs) := by
  unfold fldTK
  dsimp only
  rw [if_pos hc, h]
  dsimp only
  rw [leavesK_map]; rfl
section
variable {K : KC} {Z : Ent} {G H : Hp} {σ : L2.St} {env : Env}
theorem ER.fldK (er : ER K Z G H σ env) {i : Nat} {s : Bool} {c f : Str} {ts : List (Str × T)} {kvs : List (D × D)} (hi : env[i]? = some (.tre s (.ins c ts))) (hl : ts.lookup f = some (.dct true false (leafP kvs))) :
    ∃ p Ca dx vs l us, σ[i]? = some (some (.ref p)) ∧ K.C.cls c = some Ca ∧ H p = some (.ins Ca dx vs) ∧ vs.lookup f = some (.ref l) ∧ H l = some (.dT us) ∧ RepT K G us kvs ∧ G l = none ∧ Z.H l = none ∧
      ∀ (us' : List (List Key × V)) (kvs' : List (D × D)), RepT K G us' kvs' → ER K Z G (L2.upd H l (.dT us')) σ (env.set i (.tre s (.ins c (tputF f (.dct true false (leafP kvs')) ts)))) := by
  obtain ⟨v, hs, u, F, rfl, hsl, r, nd⟩ := er.at' i _ hi
  cases r with
  | ins k1 h3 rf =>
    rename_i p dx Ca vs F
    have r0 := TRep.ins (c := c) k1 h3 rf
    obtain ⟨v, F1, Fj, F2, e1, e2, e3, e4⟩ := rf.split hl
    cases e2 with
    | @dt _ l us _ Fl hd rt =>
      have hd := hd.o
      obtain ⟨rt0, eF⟩ := rt.leaves
      subst eF
      have lF : l ∈ F := by rw [e3]; simp
      have ow : ∀ b ∈ p :: F, (SL.tre s (.ins c ts)).owns H (some (.ref p)) b := fun b m => ⟨K, G, _, _, rfl, r0, m⟩
      obtain ⟨gl, zl⟩ := er.own i _ _ l hi hs (ow l (.tail _ lF))
      refine ⟨p, Ca, dx, vs, l, us, hs, k1, h3, e1, hd, rt0, gl, zl, fun us' kvs' r' => ?_⟩
      have ntl : NT H l := ⟨_, hd, rfl⟩
      have hpn := List.nodup_cons.mp nd
      have n1 := nd_mid (by rw [← e3]; exact hpn.2)
      have hpl : p ≠ l := fun z => hpn.1 (by rw [z]; exact lF)
      have r3 := e4 G (L2.upd H l (.dT us')) (.dct true false (leafP kvs')) [l] .refl (.put ntl) (fun b m o e => by
        have : b ≠ l := fun z => by
          subst z
          have := n1.2.1 b (.head _)
          rcases m with m | m
          · exact this.1 m
          · exact this.2 m
        rw [upd_ne this]; exact e) (.dt (.off upd_same) (RepT.toT r'))
      rw [← e3] at r3
      exact er.putT hi hs r0 (.tail _ lF) (TRep.ins (c := c) k1 (by rw [upd_ne hpl]; exact h3) r3) nd fun b m => .inl m
end
section
variable {X : Cx} {C : CT} {W : WX}
def mFldK (i : Nat) (cs : List Str) (f : Str) : Env → Rz EV := fun env => match fldTK cs f (env.getD i .no) with
  | some (_, _, _, kvs) => .ok (.ow false (.dct true kvs))
  | none => mFld cs f (mV i) env
theorem de_fldK (i : Nat) {cs : List Str} {x f : Str} {xp pos : Pos} (hc : FldOk X.K C cs f) (hN : X.N[i]? = some x := by rfl) (hv : Vis X.env.scope x := by first | exact Or.inl rfl | exact Or.inr (Or.inl rfl) | exact Or.inr (Or.inr rfl)) (hd : (x == ("__debug__" : Str)) = false := by decide)
    (hcd : (x == ("__classdict__" : Str)) = false := by decide) (hb : attributeBase (.Name x xp) f X.env (eval (.Name x xp) X.env) = eval (.Name x xp) X.env := by rfl) : DE X C W (.Attribute (.Name x xp) f pos) (mFldK i cs f) := by
  refine ⟨⟨fun pins s σ H Q I h => ?_⟩⟩
  obtain ⟨Z, G, env, er, q⟩ := h
  unfold mFldK at q
  cases hk : fldTK cs f (env.getD i .no) with
  | none =>
    rw [hk] at q
    exact (de_fld (W := W) hc (de_var i hN hv hd hcd) hb).pe.run pins s σ H Q I ⟨Z, G, env, er, q⟩
  | some z =>
    obtain ⟨s', c, ts, kvs⟩ := z
    rw [hk] at q
    dsimp only at q
    obtain ⟨e0, hcc, hl⟩ := fldTK_inv hk
    have hi := getD_some e0 (by simp)
    obtain ⟨p, Ca, dx, vs, l, us, hs, k1, h3, e1, hd', rt, gl, zl, _⟩ := er.fldK hi hl
    obtain ⟨k2, k3⟩ := hc c hcc Ca k1
    exact (pe_fld (X := X) (pe_var hN hv hd hcd) hb).run pins s σ H Q I ⟨.ref p, hs, p, Ca, dx, vs, .ref l, rfl, h3, k2, k3, e1, q _ G H (.refl er.sub) ⟨l, rfl, ⟨us, hd', rt⟩, gl, zl, fun z => by cases z⟩⟩
def putF' (i : Nat) (f : Str) (s : Bool) (c : Str) (ts : List (Str × T)) (kvs : List (D × D)) (d : D) : EV → Env → Out := fun b env => match b with
  | .fz k => if isKeyD true k = true ∧ kvs.length < sizeLine then .nx (env.set i (.tre s (.ins c (tputF f (.dct true false (leafP (dstore kvs k d))) ts)))) else .stuck
  | _ => .stuck
def mPutF (i : Nat) (cs : List Str) (f : Str) (mk mv : Env → Rz EV) : Env → Out := onE mv fun a env => match a.fr, fldTK cs f (env.getD i .no) with
  | .fz d, some (s, c, ts, kvs) => onE mk (putF' i f s c ts kvs d) env
  | _, _ => .stuck
theorem ds_putF (i : Nat) {cs : List Str} {x f : Str} {k v : Expr} {mk mv : Env → Rz EV} {xp fp pos' pos : Pos} (hu : X.A.units + 1 < cLine) (hc : FldOk X.K C cs f) (hk : DE X C W k mk) (hv : DE X C W v mv) (hN : X.N[i]? = some x := by rfl) (hx : Vis X.env.scope x := by first | exact Or.inl rfl | exact Or.inr (Or.inl rfl) | exact Or.inr (Or.inr rfl)) (hd : (x == ("__debug__" : Str)) = false := by decide)
    (hcd : (x == ("__classdict__" : Str)) = false := by decide) (hb : attributeBase (.Name x xp) f X.env (eval (.Name x xp) X.env) = eval (.Name x xp) X.env := by rfl) (hs : swapsWith v (some (.Subscript (.Attribute (.Name x xp) f fp) k pos')) pos.line X.env = pure false := by rfl) :
    DS X C W (.Assign [.Subscript (.Attribute (.Name x xp) f fp) k pos'] v pos) (mPutF i cs f mk mv) :=
  ⟨PS.imp (ps_dput hu (pe_fld (pe_var hN hx hd hcd) hb) hk.pe hv.pe hs) fun D σ H h => onE_go h fun Z G1 H1 env v a er z s va q fr => by
    obtain ⟨G2, s2, er2, va2⟩ := frz_go er va fr
    split at q
    · rename_i d s' c ts kvs ha hw
      rw [ha] at va2
      obtain ⟨e0, hcc, hl⟩ := fldTK_inv hw
      have hi := getD_some e0 (by simp)
      obtain ⟨p, Ca, dx, vs, l, us, h1, k1, h3, e1, hdl, rt, gl, zl, _⟩ := er2.fldK hi hl
      obtain ⟨k2, k3⟩ := hc c hcc Ca k1
      refine ⟨.ref p, h1, p, Ca, dx, vs, .ref l, rfl, h3, k2, k3, e1, Z, G2, env, er2, ?_⟩
      unfold onE at q
      cases hm : mk env with
      | stuck => rw [hm] at q; exact q.elim
      | exc e =>
        rw [hm] at q
        exact fun cls d' G' H' x k => q σ H' G' cls d' (s2.trans x.g) (er2.ext x) k
      | ok b =>
        rw [hm] at q
        intro v2 G3 H3 x3 vb
        dsimp only at q
        cases b with
        | ow n w => exact q.elim
        | fz kd =>
          unfold putF' at q
          dsimp only at q
          by_cases hz : isKeyD true kd = true ∧ kvs.length < sizeLine
          · rw [if_pos hz] at q
            have e3 := er2.ext x3
            obtain ⟨p', Ca', dx', vs', l', us', h1', k1', h3', e1', hdl', rt', _, _, go⟩ := e3.fldK hi hl
            rw [h1] at h1'; cases h1'
            rw [x3.h _ _ h3] at h3'; cases h3'
            rw [e1] at e1'; cases e1'
            obtain ⟨k, hk⟩ := Option.isSome_iff_exists.mp (show (keyT? kd).isSome = true from hz.1)
            have ek := keyT?_ok hk
            subst ek
            obtain ⟨b', eb, sq⟩ := rep_keyT (K := kc X C) vb
            have va3 : Rep (kc X C) G3 v d := Rep.mono x3.g va2
            refine ⟨l, _, rfl, .inr ⟨us', k, b', hdl', eb, x3.s _ _ sq, by rw [rt'.length]; exact hz.2, rfl⟩, q σ _ G3 (s2.trans x3.g) (go _ _ (rt'.put va3))⟩
          · rw [if_neg hz] at q; exact q.elim
    · exact q.elim⟩
end
end DL
namespace DL
open PySem PySem.Spec PyProof.Rows L2
section
variable {X : Cx} {C : CT} {W : WX}
def mSetFldD (i : Nat) (cs : List Str) (f : Str) (m : Env → Rz EV) : Env → Out := fun env => match m env with
  | .ok (.ow true (.dct true kvs)) => (match env.getD i .no with
    | .own (.self c fs) => if c ∈ cs ∧ fs.length < 1000 ∧ fs.lookup f = none then .nx (env.set i (.tre true (.ins c ((fs.map fun p => (p.1, T.leaf p.2)) ++ [(f, .dct true false (leafP kvs))])))) else .stuck
    | _ => .stuck)
  | .exc e => .exc e env
  | _ => .stuck
theorem ds_setFldD (i : Nat) {cs : List Str} {x f : Str} {e : Expr} {m : Env → Rz EV} {xp p' pos : Pos} (hc : FldOk X.K C cs f) (he : DE X C W e m) (hs : swapsWith e (some (.Attribute (.Name x xp) f p')) pos.line X.env = pure false := by rfl)
    (hN : X.N[i]? = some x := by rfl) (hv : Vis X.env.scope x := by first | exact Or.inl rfl | exact Or.inr (Or.inl rfl) | exact Or.inr (Or.inr rfl)) (hd : (x == ("__debug__" : Str)) = false := by decide) (hcd : (x == ("__classdict__" : Str)) = false := by decide) :
    DS X C W (.Assign [.Attribute (.Name x xp) f p'] e pos) (mSetFldD i cs f m) :=
  ⟨PS.imp (ps_fld (pe_var hN hv hd hcd) he.pe hs) fun D σ H ⟨Z, G, env, er, q⟩ => by
    unfold mSetFldD at q
    refine ⟨Z, G, env, er, ?_⟩
    cases ha : m env with
    | stuck => rw [ha] at q; exact q.elim
    | exc e =>
      rw [ha] at q
      exact fun cls d G' H' x k => q σ H' G' cls d x.g (er.ext x) k
    | ok a =>
      rw [ha] at q
      intro y G1 H1 x1 va
      cases a with
      | fz d => exact q.elim
      | ow n w =>
        cases n with
        | false => exact q.elim
        | true =>
        cases w with
        | dct t kvs =>
          cases t with
          | false => exact q.elim
          | true =>
          dsimp only at q
          split at q
          · rename_i c fs hi
            have hi := getD_some hi (by simp)
            split at q
            · rename_i hz
              obtain ⟨l, rfl, ⟨us, hl, ru⟩, g1, z1, n1⟩ := va
              have er1 := er.ext x1
              obtain ⟨v, h1, p, rfl, sl, Ca, dx, vs, k1, h3, h4⟩ := er1.at' i _ hi
              obtain ⟨k2, k3⟩ := hc c hz.1 Ca k1
              obtain ⟨gp, zp⟩ := er1.own i _ _ p hi h1 rfl
              have hlp : l ≠ p := fun z => by subst z; rw [hl] at h3; cases h3
              have fr : Free H1 σ env l := (er.free (n1 rfl)).ext er x1
              have hn : vs.lookup f = none := h4.look_none hz.2.2
              have rt : TRepF (kc X C) G1 (upd H1 p (.ins Ca dx (vs ++ [(f, .ref l)]))) (vs ++ [(f, .ref l)]) ((fs.map fun p => (p.1, T.leaf p.2)) ++ [(f, .dct true false (leafP kvs))]) ([] ++ [l]) :=
                h4.toT.snoc (.dt (.off (by rw [upd_ne hlp]; exact hl)) (RepT.toT ru))
              refine ⟨.ref p, h1, p, Ca, dx, vs, rfl, h3, k2, k3, by rw [h4.length]; exact hz.2.1, q _ _ G1 x1.g ?_⟩
              rw [putF_new hn]
              have ro := TRep.ins (c := c) k1 upd_same rt
              refine er1.repl hi h1 .refl (er1.zh.updR zp) (er1.sub.updR gp) er1.new (.put (er1.nt hi h1 rfl)) (fun a nt no => ⟨fun o' e => ?_, id⟩) ⟨.ref p, _, rfl, fun _ => ⟨p, rfl, sl⟩, ro, by simp [Ne.symm hlp]⟩ fun a oa => ?_
              · have : a ≠ p := fun h => no (by subst h; rfl)
                rw [upd_ne this]; exact e
              · obtain ⟨K', G', u', F', e, r', m⟩ := oa
                cases e
                rw [r'.uniq ro] at m
                rcases List.mem_cons.mp m with rfl | m
                · exact ⟨gp, zp, .inl rfl⟩
                · have : a = l := by simpa using m
                  subst this
                  exact ⟨g1, z1, .inr fr⟩
            · exact q.elim
          · exact q.elim
        | _ => exact q.elim⟩
end
abbrev TFn := List D → Rz (List (Str × T))
def runTr (N : Nat) (c : Str) (b : Env → Out) : TFn := fun ds => match b (.own (.self c []) :: (ds.map SL.val ++ List.replicate (N - (ds.length + 1)) SL.no)) with
  | .nx env => (match env.getD 0 .no with
    | .tre true (.ins c' ts) => if c' = c then .ok ts else .stuck
    | _ => .stuck)
  | _ => .stuck
def spTr (K : KC) (c : Str) (n : Nat) (IF : TFn) : Sp := fun vs H Q E => ∃ (a Ca dx : Addr) (ws : List V) (G : Hp) (ds : List D), vs = .ref a :: ws ∧ K.C.cls c = some Ca ∧ H a = some (.ins Ca dx []) ∧ G a = none ∧ Sub G H ∧ Reps K G ws ds ∧ ds.length = n ∧
  match IF ds with
  | .ok ts => ∀ G' H' F, Mkd G H a G' H' → G' a = none → TRep K G' H' (.ref a) (.ins c ts) (a :: F) → (a :: F).Nodup → (∀ b ∈ F, G' b = none ∧ del H a b = none) → Q .non H'
  | _ => False
theorem TRep.cx0 {K K' : KC} (h1 : K.K = K'.K) (h2 : K.C.cls = K'.C.cls) {G H : Hp} : ∀ {v : V} {t : T} {F : List Addr}, TRep K G H v t F → TRep K' G H v t F := by
  obtain ⟨k, c1⟩ := K
  obtain ⟨k', c2⟩ := K'
  obtain rfl : k = k' := h1
  intro v t F r
  exact TRep.rec (motive_1 := fun v t F _ => TRep ⟨k, c2⟩ G H v t F) (motive_2 := fun vs ts F _ => TReps ⟨k, c2⟩ G H vs ts F) (motive_3 := fun vs ts F _ => TRepF ⟨k, c2⟩ G H vs ts F)
    (motive_4 := fun vs ts F _ => TRepK ⟨k, c2⟩ G H vs ts F) (motive_5 := fun vs ts F _ => TRepT ⟨k, c2⟩ G H vs ts F)
    (fun r => .leaf (Rep.cx (K := ⟨k, c1⟩) (K' := ⟨k, c2⟩) rfl h2 r)) (fun a _ b => .tup a b) (fun a _ b => .lst a b) (fun a _ b => .dk a b) (fun a _ b => .dt a b) (fun a b _ d => .ins ((congrFun h2 _).symm.trans a) b d)
    .nil (fun _ _ a b => .cons a b) .nil (fun _ _ a b => .cons a b) .nil (fun _ _ a b => .cons a b) .nil (fun _ _ a b => .cons a b) r
theorem fn_initT {P : Program} {w : World} {mg : Str → Option Value} {base : Heap} {K : PySem.W.Frag} {C : CT} {c x qual : Str} {params : Arguments} {body : List Stmt} {scope : Scope} {dvs : List V} {kws : List (Str × V)} {f : Addr} {fd : FuncData} {N ps : List Str} {k n : Nat} {b : Env → Out} (F : FunD K x qual params body scope dvs kws f fd) (S : FnScope N ps scope) (hn : ps.length = n + 1)
    (hbody : ∀ (a : Addr) (cdv : Value) (A : Around) (outer : List PySem.Env) (s : Shared) (H : Hp) (E : XK), Room k (A.deeper (envOfC qual scope s.heap.objs.size f cdv)) →
      PassesOwn (model P w) (A.deeper (envOfC qual scope s.heap.objs.size f cdv)) (envOfC qual scope s.heap.objs.size f cdv) (cxOf (L2.CX P w) P w K mg base N qual scope f cdv A outer s H E).xe →
      Takes (cxOf (L2.CX P w) P w K mg base N qual scope f cdv A outer s H E) (fun cls d _ H => E cls d H) → DSs (cxOf (L2.CX P w) P w K mg base N qual scope f cdv A outer s H E) ⟨C.cls, none, some a, C.so⟩ (fun cls d _ H => E cls d H) body b) :
    FnOk P w K mg base (L2.CX P w) (k + 1) f fd ps (spTr ⟨K, C⟩ c n (runTr N.length c b)) := by
  refine F.ok S (fun vs H Q E ⟨a, Ca, dx, ws, G, ds, e, _, _, _, _, r, l, _⟩ => by rw [e, List.length_cons, r.length, l, hn]) fun cdv A outer s H vs Q E hr ⟨a, Ca, dx, ws, G, ds, e, hC, ha, ga, hs, r, l, h⟩ => ?_
  subst e
  have r2 : Reps ⟨K, ⟨C.cls, none, some a, C.so⟩⟩ G ws ds := Reps.cx (K := ⟨K, C⟩) (K' := ⟨K, ⟨C.cls, none, some a, C.so⟩⟩) rfl rfl r
  have wo : WOk ⟨K, ⟨C.cls, none, some a, C.so⟩⟩ G H a (.self c []) := ⟨rfl, Ca, dx, [], hC, ha, .nil⟩
  have hst : start N (V.ref a :: ws) = some (.ref a) :: (ws.map some ++ List.replicate (N.length - (ds.length + 1)) none) := by
    unfold L2.start
    rw [List.map_cons, List.cons_append, List.length_cons, r.length]
  refine ⟨_, (hbody a cdv A outer s H E hr (passes_of rfl) (takes_of rfl rfl rfl rfl)).pss, ⟨G, del H a⟩, G, _, by rw [hst]; exact er_startI hs ga wo r2 (N.length - (ds.length + 1)), ?_⟩
  unfold runTr at h
  have mk : ∀ {G' H' : Hp} {σ : L2.St} {env : Env}, ER ⟨K, ⟨C.cls, none, some a, C.so⟩⟩ ⟨G, del H a⟩ G' H' σ env → Mkd G H a G' H' := fun {G' H' σ env} er => ⟨er.zg, er.sub, er.zh, fun b g nt => by
    cases q : G' b with
    | none => rfl
    | some o => exact absurd nt (er.new b (by rw [q]; simp) g)⟩
  show Post _ _ _ _ _ _
  cases hb : b (.own (.self c []) :: (ds.map SL.val ++ List.replicate (N.length - (ds.length + 1)) SL.no)) with
  | nx env =>
    rw [hb] at h
    dsimp only at h
    intro σ H' G' s' er
    cases hq : env.getD 0 .no with
    | tre so t =>
      rw [hq] at h
      cases t with
      | ins c' ts =>
        cases so with
        | false => exact h.elim
        | true =>
        dsimp only at h
        by_cases hcc : c' = c
        · rw [if_pos hcc] at h
          subst hcc
          have hi := getD_some hq (by simp)
          obtain ⟨v, h1, u, Fo, rfl, hsl, r, nd⟩ := er.at' 0 _ hi
          obtain ⟨p, rfl, hp⟩ := hsl rfl
          cases hp
          have r0 := id r
          cases r with
          | @ins _ dx' Ca' _ vs' _ F k1 h3 rf =>
            have ow : ∀ b ∈ a :: F, (SL.tre true (.ins c' ts)).owns H' (some (.ref a)) b := fun b m => ⟨_, G', _, _, rfl, r0, m⟩
            exact h G' H' F (mk er) (er.own 0 _ _ a hi h1 (ow a (.head _))).1 (TRep.cx0 (K := ⟨K, ⟨C.cls, none, some a, C.so⟩⟩) (K' := ⟨K, C⟩) rfl rfl r0) nd fun b m => er.own 0 _ _ b hi h1 (ow b (.tail _ m))
        · rw [if_neg hcc] at h; exact h.elim
      | _ => cases so <;> exact h.elim
    | _ => rw [hq] at h; exact h.elim
  | ret ev => rw [hb] at h; exact h.elim
  | exc e env => rw [hb] at h; exact h.elim
  | bk e => rw [hb] at h; exact h.elim
  | ct e => rw [hb] at h; exact h.elim
  | rtE v e => rw [hb] at h; exact h.elim
  | stuck => rw [hb] at h; exact h.elim
def InTr (P : Program) (w : World) (K : KC) (mg : Str → Option Value) (base : Heap) (k : Nat) (c : Str) (n : Nat) (IF : TFn) : Prop :=
  ∃ (Ca f : Addr) (fd : FuncData) (ps : List Str), mg c = some (.ref Ca) ∧ K.C.cls c = some Ca ∧ Mk K.K Ca f ∧ FnOk P w K.K mg base (L2.CX P w) k f fd ps (spTr K c n IF) ∧ Binds K.K fd ps []
end DL
namespace L2
open PySem PySem.Spec PyProof.Rows
theorem Inv.frzT2 {X : Cx} {pins : List (Addr × Obj)} {σ : St} {H : Hp} {s : Shared} {d : Addr} {o : Obj} {kvs : List (List Key × V)} (I : Inv X pins σ H s) (h : H d = some (.frz o (.dT kvs))) :
    (d == sysModules) = false ∧ s.heap.get? d = some o ∧ o.ExactDict ∧ ∃ (es : Array DictEntry) (ep : Nat), o.data = .dict es ep ∧ es.size = kvs.length ∧
      ∀ (i : Nat) (k : List Key) (v : V), kvs[i]? = some (k, v) → ∃ (en : DictEntry) (q : Addr), es[i]? = some en ∧ en.key = .ref q ∧ H q = some (.tup (k.map kV)) ∧ RelV v en.val := by
  obtain ⟨hd, z, hs, xs, pr, o', es, ep, ho, hx, hdt, he, _⟩ := I.hok d _ h
  rw [hd] at ho
  cases ho
  refine ⟨hs, hd, hx, es, ep, hdt, ?_, fun i k v e => ?_⟩
  · have l1 : es.size = xs.length := size_of_entries he
    have l2 : kvs.length = xs.length := Paired.length pr
    omega
  · obtain ⟨b, hb, e1, e2, e3⟩ := paired_get pr e
    have q := entry_at he i
    rw [hb] at q
    exact ⟨_, b.2.1, q, rfl, e2, e3⟩
end L2
namespace DL
open PySem PySem.Spec PyProof.Rows L2
section
variable {K : KC} {Z : Ent} {G H : Hp} {σ : L2.St} {env : Env}
theorem ER.lockF (er : ER K Z G H σ env) {i : Nat} {s : Bool} {c f : Str} {ts : List (Str × T)} {kvs : List (D × D)} (hi : env[i]? = some (.tre s (.ins c ts))) (hl : ts.lookup f = some (.dct true false (leafP kvs))) :
    ∃ l u, H l = some u ∧ Mut (some u) ∧ ∀ od, ER K Z G (L2.upd H l (.frz od u)) σ (env.set i (.tre s (.ins c (tputF f (.dct true true (leafP kvs)) ts)))) := by
  obtain ⟨v, hs, u, F, rfl, hsl, r, nd⟩ := er.at' i _ hi
  cases r with
  | ins k1 h3 rf =>
    rename_i p dx Ca vs F
    have r0 := TRep.ins (c := c) k1 h3 rf
    obtain ⟨v, F1, Fj, F2, e1, e2, e3, e4⟩ := rf.split hl
    cases e2 with
    | @dt _ l us _ Fl hd rt =>
      have hd := hd.o
      obtain ⟨rt0, eF⟩ := rt.leaves
      subst eF
      have lF : l ∈ F := by rw [e3]; simp
      refine ⟨l, _, hd, trivial, fun od => ?_⟩
      have ntl : NT H l := ⟨_, hd, rfl⟩
      have hpn := List.nodup_cons.mp nd
      have n1 := nd_mid (by rw [← e3]; exact hpn.2)
      have hpl : p ≠ l := fun z => hpn.1 (by rw [z]; exact lF)
      have hx : RdX true (L2.upd H l (.frz od (.dT us))) l (.dT us) := ⟨od, upd_same⟩
      have r3 := e4 G (L2.upd H l (.frz od (.dT us))) (.dct true true (leafP kvs)) [l] .refl (.put ntl) (fun b m o e => by
        have : b ≠ l := fun z => by
          subst z
          have := n1.2.1 b (.head _)
          rcases m with m | m
          · exact this.1 m
          · exact this.2 m
        rw [upd_ne this]; exact e) (.dt hx (RepT.toT rt0))
      rw [← e3] at r3
      exact er.putT hi hs r0 (.tail _ lF) (TRep.ins (c := c) k1 (by rw [upd_ne hpl]; exact h3) r3) nd fun b m => .inl m
end
end DL
namespace DL
open PySem PySem.Spec PyProof.Rows L2
def DItO (d : Addr) (n ep : Nat) (it : Addr) : HO := .ext fun h => h.IsKeyIter it d 0 n ep
theorem dit_ok {P : Program} {w : World} {H : Hp} {h : Heap} {d it : Addr} {n ep : Nat} (e : h.IsKeyIter it d 0 n ep) : ObjOk P w H h it (DItO d n ep it) := by
  obtain ⟨o, h1, h2⟩ := id e
  exact ⟨e, ⟨o, h1⟩, fun g1 g2 ⟨o, q1, q2⟩ k => ⟨o, k _ q1, q2⟩⟩
section
variable {X : Cx}
def rIterD (n : Nat) : List V → Hp → VK → Prop := fun xs H Q => ∃ (d : Addr) (o : Obj) (kvs : List (List Key × V)), xs = [.ref d] ∧ H d = some (.frz o (.dT kvs)) ∧ ∀ es ep it, o.data = .dict es ep → H it = none → n ≤ it → Q (.ref it) (upd H it (DItO d kvs.length ep it))
theorem call_iterD : CallR X (.builtin "iter") (rIterD X.s_0.heap.objs.size) := by
  intro pins s σ H xs us Q I r h
  obtain ⟨d, o, kvs, rfl, hq, q⟩ := h
  obtain rfl := Vals.ref1 r
  obtain ⟨hs, hgd, hx, es, ep, hdt, hsz, ent⟩ := I.frzT2 hq
  refine Calls.call_function_entry (by decide +kernel) (by decide +kernel) PySem.W.kdk_entry_iter (PySem.W.kdk_args_iter _) ?_
  unfold Builtin.«iter»
  refine wpAny_bind (m := someArgs "iter" 1 2 _) (wpAny_of_eq (a := [Value.ref d]) (by first | rfl | kernel_rfl!) ?_)
  show wpAny _ _ (pyIter (.ref d) >>= _) _ _ _
  refine wpAny_bind (iter_keys hs hgd hx hdt ?_)
  refine wpAny_pure ⟨_, rfl, .ref s.heap.objs.size, _, I.laid (t' := s.toks) (fun b u e => Heap.get?_push_of_some _ e) (Nat.le_refl _) (dit_ok (d := d) (n := kvs.length) (ep := ep) ⟨_, Heap.get?_push_size _ rfl, rfl, ?_⟩), rfl, q es ep _ hdt (I.hok.fresh (Nat.le_refl _)) I.sz⟩
  rw [hsz] <;> rfl
end
section
variable {P : Program} {w : World} {K : PySem.W.Frag} {mg : Str → Option Value} {base : Heap}
def OItD (P : Program) (w : World) (K : KC) (mg : Str → Option Value) (base : Heap) (k : Nat) (c fld : Str) : Prop :=
  ∃ (Ca f : Addr) (fd : FuncData), K.C.cls c = some Ca ∧ Meth K.K Ca "__iter__" f ∧ Binds K.K fd ["self"] [] ∧
    ∀ (A : Around) (outer : List PySem.Env) (s : Shared) (G H : Hp) (Q : VK) (E : XK) (x : Addr) (fs : List (Str × D)) (kvs : List (D × D)), Room k A → Env0 P w K.K mg base A outer s H → BindsTo s fd ⟨[.ref x], []⟩ ((["self"] : List Str).zip [Value.ref x]) → Sub G H → Rep K G (.ref x) (.ins c fs) →
      fs.lookup fld = some (.dct true true kvs) → (∀ G1 H1 a it o es ep us, Ext G H G1 H1 → G1 a = some (.frz o (.dT us)) → RepT K G1 us kvs → o.data = .dict es ep → H1 it = none → s.heap.objs.size ≤ it → Q (.ref it) (upd H1 it (DItO a us.length ep it))) →
      codeAny (model P w) A (.call (.ref f) ⟨[.ref x], []⟩) (CR (L2.CX P w) outer P w H s Q E) s
theorem oitD_ok {K : KC} {c fld qual : Str} {cs : List Str} {params : Arguments} {body : List Stmt} {scope : Scope} {Ca f : Addr} {fd : FuncData} {k : Nat} {e : Expr} {ip cp rp : Pos} (hC : K.C.cls c = some Ca) (hm : Meth K.K Ca "__iter__" f) (F : FunD K.K "__iter__" qual params body scope [] [] f fd) (S : FnScope ["self"] ["self"] scope)
    (hbnd : Binds K.K fd ["self"] []) (hbd : body = [.Return (some (.Call (.Name "iter" ip) [e] [] cp)) rp]) (hc : c ∈ cs) (hmg : mg "iter" = none)
    (hE : ∀ (cdv : Value) (A : Around) (outer : List PySem.Env) (s : Shared) (H : Hp) (E : XK), DE (cxOf (L2.CX P w) P w K.K mg base ["self"] qual scope f cdv A outer s H E) K.C (fun cls d _ H => E cls d H) e (mFld cs fld (mV 0)) ∧
      Gl (cxOf (L2.CX P w) P w K.K mg base ["self"] qual scope f cdv A outer s H E) "iter" ∧ starEach [e] (envOfC qual scope s.heap.objs.size f cdv) = (false, eval e (envOfC qual scope s.heap.objs.size f cdv)) :: starEach [] (envOfC qual scope s.heap.objs.size f cdv)) : OItD P w K mg base (k + 1) c fld := by
  refine ⟨Ca, f, fd, hC, hm, hbnd, fun A outer s G H Q E x fs kvs hr env0 hb sg rx hfs hq => ?_⟩
  refine enter_fn (vs := [.ref x]) (us := [.ref x]) F S hr env0 hb (.cons rfl .nil) rfl fun cdv hr2 => ?_
  subst hbd
  obtain ⟨hd, hg, hs⟩ := hE cdv A outer s H E
  refine ⟨_, pss_one (ps_ret (pe_callB call_iterD hg hmg (by rfl) (pa_cons hd.pe pa_nil hs) (by decide) (by decide) hs)), ?_⟩
  refine ⟨⟨G, H⟩, G, _, er_start sg (.cons rx .nil) ["self"] (Nat.le_refl _), ?_⟩
  show match (mFld cs fld (mV 0) [.val (.ins c fs)]) with
    | .ok ev => _
    | .exc e => _
    | .stuck => _
  have e1 : mFld cs fld (mV 0) [.val (.ins c fs)] = .ok (.fz (.dct true true kvs)) := by
    show ((Rz.ok (EV.fz (D.ins c fs)) : Rz EV) >>= fun a => orStuck (fldD cs fld a.d) >>= fun d => Rz.ok (EV.fz d)) = _
    simp only [Rz.ok_bind, EV.d_fz, fldD_ins, if_pos hc, hfs, orStuck_some]
  rw [e1]
  intro v G1 H1 x1 va
  have k' : Rep K G1 v (.dct true true kvs) := va
  cases k' with
  | dt rd r =>
    obtain ⟨o, ga⟩ := rd.lk
    exact ⟨_, o, _, rfl, x1.s _ _ ga, fun es ep it he hn hle => hq G1 H1 _ it o es ep _ x1 ga r he hn hle⟩
end
section
variable {X : Cx} {C : CT} {W : WX}
def ownItsD (c fld : Str) : D → Rz (List D)
  | .ins c' fs => if c' = c then (match fs.lookup fld with
    | some (.dct true true kvs) => .ok (kvs.map (·.1))
    | _ => .stuck) else .stuck
  | _ => .stuck
def mItOD (c fld : Str) (m : Env → Rz EV) : Env → Rz (List D) := fun env => m env >>= fun a => frD a >>= ownItsD c fld
theorem pi_ownD {k : Nat} {c fld : Str} {tg e : Expr} {te : TE} (O : OItD X.prog X.w (kc X C) X.mg X.base k c fld) (hr : Room k X.A) (he : PE X e te) :
    PI X tg e fun σ H R => te σ H fun v H1 => ∃ x G fs kvs, v = .ref x ∧ Sub G H1 ∧ Rep (kc X C) G (.ref x) (.ins c fs) ∧ fs.lookup fld = some (.dct true true kvs) ∧ ∀ a o G1 H2 us, Ext G H1 G1 H2 → G1 a = some (.frz o (.dT us)) → RepT (kc X C) G1 us kvs → R (Itkt a o us) H2 := by
  obtain ⟨Ca, f, fd, hC, hm, hbnd, run⟩ := O
  refine ⟨fun pins s σ H R I h => ?_⟩
  refine thn (he.run pins s σ H _ I h) fun v s1 ⟨x, H1, I1, r1, xa, G, fs, kvs, e, sg, rx, hfs, q⟩ => ?_
  subst e
  obtain rfl : v = Value.ref xa := r1
  obtain ⟨Ca', dx, vs, q1, q2⟩ : ∃ Ca' dx vs, C.cls c = some Ca' ∧ G xa = some (.ins Ca' dx vs) := by cases rx with | ins q1 q2 _ => exact ⟨_, _, _, q1, q2⟩
  have hC : C.cls c = some Ca := hC
  rw [hC] at q1; cases q1
  obtain ⟨mA, J, _⟩ := ins_get I1.hok (sg _ _ q2)
  obtain ⟨od, J, _⟩ := J.look
  obtain ⟨m, hF⟩ := I1.fr
  refine PySem.W.owit_iter hF I1.ok.mod.kin J hm.at_ hm.fn ?_
  have b := hbnd s1 [.ref xa] I1.kIn rfl
  rw [List.append_nil] at b
  refine wpAny_call (codeAny_mono (run X.A X.stack s1 G H1 (fun v H' => ∃ a it o es ep G1 H2 us, v = V.ref it ∧ Ext G H1 G1 H2 ∧ G1 a = some (.frz o (.dT us)) ∧ RepT (kc X C) G1 us kvs ∧ o.data = .dict es ep ∧ H2 it = none ∧ s1.heap.objs.size ≤ it ∧ H' = upd H2 it (DItO a us.length ep it)) (fun _ _ _ => False) xa fs kvs hr I1.env0 b sg rx hfs
    fun G1 H2 a it o es ep us x2 g r he n le => ⟨a, it, o, es, ep, G1, H2, us, rfl, x2, g, r, he, n, le, rfl⟩) fun r s' hq => ?_)
  cases r with
  | error e =>
    obtain ⟨_, _, _, _, _, _, _, _, _, _, _, _, z⟩ := hq
    exact z.elim
  | ok fl =>
    cases fl with
    | next => exact False.elim hq
    | brk => exact False.elim hq
    | cont => exact False.elim hq
    | ret u =>
      obtain ⟨v, H', I', rv, a, it, o, es, ep, G1, H2, us, ev, x2, g, rs, he, hn, hle, rfl⟩ := I1.after hq
      subst ev
      obtain rfl : u = Value.ref it := rv
      have hit : s'.heap.IsKeyIter it a 0 us.length ep := (I'.hok it _ upd_same).1
      unfold PySem.W.OwitIt
      refine wpAny_specialOf hit.typeIs PySem.F.slot_dict_keyiterator_next.lookup ?_
      have I2 := inv_drop I' hn
      refine ⟨it, [it], _, Itkt a o us, H2, rfl, I2, turn_keysT it he, hit, fun b hb => ?_, q a o G1 H2 us x2 g rs⟩
      have e : b = it := by simpa using hb
      subst e
      exact I1.fpOk hle hn
theorem di_ownD {k : Nat} {c fld : Str} {tg e : Expr} {m : Env → Rz EV} (O : OItD X.prog X.w (kc X C) X.mg X.base k c fld) (hr : Room k X.A) (he : DE X C W e m) : DI X C W tg e (mItOD c fld m) := by
  have hpi := pi_ownD (tg := tg) O hr he.pe
  refine ⟨PI.imp hpi fun σ H R ⟨Z, G, env, er, q⟩ => ?_⟩
  unfold mItOD at q
  refine ⟨Z, G, env, er, ?_⟩
  cases hm : m env with
  | stuck => rw [hm] at q; exact q.elim
  | exc e => rw [hm] at q; exact q
  | ok a =>
    rw [hm] at q
    simp only [Rz.ok_bind] at q
    intro v G1 H1 x1 va
    obtain ⟨G2, x2, s2, va2⟩ := va.fr x1 .refl
    have hfr : ∃ d, a.fr = .fz d ∧ frD a = .ok d := by
      cases h : a.fr with
      | fz d => exact ⟨d, rfl, by unfold frD; rw [h]⟩
      | ow n w => unfold frD at q; rw [h] at q; exact q.elim
    obtain ⟨d, h1, h2⟩ := hfr
    rw [h2] at q
    rw [h1] at va2
    simp only [Rz.ok_bind] at q
    have va2 : Rep (kc X C) G2 v d := va2
    cases d with
    | ins c' fs =>
      unfold ownItsD at q
      dsimp only at q
      by_cases hc : c' = c
      · rw [if_pos hc] at q
        subst hc
        cases hl : fs.lookup fld with
        | none => rw [hl] at q; exact q.elim
        | some y =>
          rw [hl] at q
          cases y with
          | dct t l kvs =>
            cases t with
            | false => exact q.elim
            | true =>
              cases l with
              | false => exact q.elim
              | true =>
                have va3 := id va2
                cases va2 with
                | ins k1 k2 k3 => exact ⟨_, G2, fs, kvs, rfl, x2.s, va3, hl, fun a o G3 H3 us x3 g r => q (Itkt a o us) G3 H3 (x2.trans x3) (itkt_ok g r)⟩
          | _ => exact q.elim
      · rw [if_neg hc] at q; exact q.elim
    | _ => exact q.elim
end
end DL
namespace DL
open PySem PySem.Spec PyProof.Rows L2
section
variable {X : Cx} {C : CT} {W : WX}
theorem run_at {A0 : Around} {k : Nat} {f : Addr} {fd : FuncData} {ps : List Str} {sp : Sp} {pins : List (Addr × Obj)} {σ : L2.St} {s : Shared} {H : Hp} {Q : VK} {us : List Value} {vs : List V} {E' : Value → Shared → Prop} (hr : Room k A0) (e0 : Env0 X.prog X.w X.K X.mg X.base A0 X.stack s H) (FO : FnOk X.prog X.w X.K X.mg X.base (L2.CX X.prog X.w) k f fd ps sp) (hb : Binds X.K fd ps []) (I : Inv X pins σ H s) (rv : Vals vs us)
    (h : sp vs H Q fun _ _ _ => False) : wpAny (model X.prog X.w) A0 (call (.ref f) us) (EP X pins σ Q) E' s := by
  have hl : us.length = ps.length := rv.length.symm.trans (FO.len _ _ _ _ h)
  have bound := hb s us I.kIn (by rw [List.append_nil]; exact hl)
  rw [List.append_nil] at bound
  refine wpAny_call (codeAny_mono (FO.run A0 X.stack s H ⟨us, []⟩ us vs Q _ hr e0 bound rv h) fun r s' hq => ?_)
  match r, hq with
  | .error e, hq => obtain ⟨_, _, _, _, _, _, _, _, _, _, _, _, z⟩ := hq; exact z.elim
  | .ok (.ret u), hq => exact I.after hq
  | .ok .next, hq => exact hq.elim
  | .ok .brk, hq => exact hq.elim
  | .ok .cont, hq => exact hq.elim
end
end DL
namespace DL
open PySem PySem.Spec PyProof.Rows L2
end DL
namespace DL
open PySem PySem.Spec PyProof.Rows L2
end DL
namespace DL
open PySem PySem.Spec PyProof.Rows L2
def pureE : EV → Bool
  | .fz d => pureD d
  | .ow true (.lst ds) => pureDs ds
  | _ => false
end DL
namespace DL
open PySem PySem.Spec PyProof.Rows L2
end DL
namespace DL
open PySem PySem.Spec PyProof.Rows L2
end DL
namespace DL
open PySem PySem.Spec PyProof.Rows L2
def delF (H : Hp) (F : List Addr) : Hp := fun a => if a ∈ F then none else H a
theorem delF_ne {H : Hp} {F : List Addr} {a : Addr} (h : a ∉ F) : delF H F a = H a := if_neg h
theorem delF_in {H : Hp} {F : List Addr} {a : Addr} (h : a ∈ F) : delF H F a = none := if_pos h
theorem delF_sub {H : Hp} {F : List Addr} : Sub (delF H F) H := fun a o e => by
  unfold delF at e
  split at e
  · cases e
  · exact e
theorem sub_delF {G H : Hp} {F : List Addr} (s : Sub G H) (g : ∀ a ∈ F, G a = none) : Sub G (delF H F) := fun a o e => by
  rw [delF_ne (fun m => by rw [g a m] at e; cases e)]; exact s a o e
structure MkT (G H : Hp) (F : List Addr) (G' H' : Hp) : Prop where
  g : Sub G G'
  s : Sub G' H'
  h : Sub (delF H F) H'
  n : ∀ b, G b = none → NT (delF H F) b → G' b = none
inductive RT where
  | ok (d : D) (ts : List (Str × T)) | exc (e : Exn) (ts : List (Str × T)) | stuck
abbrev FnT := List (Str × T) → List D → RT
structure TrOk (K : KC) (G H : Hp) (p : Addr) (c : Str) (ts : List (Str × T)) (F : List Addr) : Prop where
  r : TRep K G H (.ref p) (.ins c ts) F
  nd : F.Nodup
  g : ∀ a ∈ F, G a = none
def spMT (K : KC) (c : Str) (n : Nat) (F : FnT) : Sp := fun vs H Q E => ∃ (p : Addr) (ws : List V) (G : Hp) (ts : List (Str × T)) (F0 : List Addr) (ds : List D), vs = .ref p :: ws ∧ TrOk K G H p c ts F0 ∧ Sub G H ∧ Reps K G ws ds ∧ ds.length = n ∧
  match F ts ds with
  | .ok d ts' => ∀ v G' H' F1, MkT G H F0 G' H' → Rep K G' v d → TrOk K G' H' p c ts' F1 → (∀ b ∈ F1, delF H F0 b = none) → Q v H'
  | .exc e ts' => ∀ cls dd G' H' F1, MkT G H F0 G' H' → ExcOk K G' H' cls dd e → TrOk K G' H' p c ts' F1 → (∀ b ∈ F1, delF H F0 b = none) → E cls dd H'
  | .stuck => False
theorem TrOk.cx {K K' : KC} (h1 : K.K = K'.K) (h2 : K.C.cls = K'.C.cls) {G H : Hp} {p : Addr} {c : Str} {ts : List (Str × T)} {F : List Addr} (x : TrOk K G H p c ts F) : TrOk K' G H p c ts F := ⟨x.r.cx0 h1 h2, x.nd, x.g⟩
theorem spMT_cx {K K' : KC} (h1 : K.K = K'.K) (h2 : K.C.cls = K'.C.cls) {c : Str} {n : Nat} {F : FnT} {vs : List V} {H : Hp} {Q : VK} {E : XK} (h : spMT K' c n F vs H Q E) : spMT K c n F vs H Q E := by
  obtain ⟨p, ws, G, ts, F0, ds, e, tr, s, r, l, q⟩ := h
  refine ⟨p, ws, G, ts, F0, ds, e, tr.cx h1.symm h2.symm, s, Reps.cx h1.symm h2.symm r, l, ?_⟩
  cases hF : F ts ds with
  | stuck => rw [hF] at q; exact q
  | exc e ts' => rw [hF] at q; exact fun cls dd G' H' F1 m k t b => q cls dd G' H' F1 m (k.cx h1 h2) (t.cx h1 h2) b
  | ok d ts' => rw [hF] at q; exact fun v G' H' F1 m k t b => q v G' H' F1 m (k.cx h1 h2) (t.cx h1 h2) b
theorem er_startT {K : KC} {G H : Hp} {p : Addr} {c : Str} {ts : List (Str × T)} {F0 : List Addr} {ws : List V} {ds : List D} (s : Sub G H) (hs : K.C.slf = some p) (tr : TrOk K G H p c ts F0) (r : Reps K G ws ds) (M : Nat) :
    ER K ⟨G, delF H F0⟩ G H (some (.ref p) :: (ws.map some ++ List.replicate M none)) (.tre true (.ins c ts) :: (ds.map SL.val ++ List.replicate M SL.no)) := by
  have hl := r.length
  have noown : ∀ (i : Nat) (x : SL) (v : Option V) (p : Addr), (ds.map SL.val ++ List.replicate M SL.no)[i]? = some x → ¬ x.owns H v p := fun i x v p e o => by
    rcases List.mem_append.mp (List.mem_of_getElem? e) with m | m
    · obtain ⟨d, _, z⟩ := List.mem_map.mp m
      cases z; exact o
    · cases (List.mem_replicate.mp m).2; exact o
  refine ⟨by simp [hl], .refl, delF_sub, sub_delF s tr.g, s, fun b n z => absurd z n, fun i x e => ?_, fun i x v q e e2 o => ?_, fun i j x y v u q e1 e2 o1 e3 e4 o2 => ?_⟩
  · cases i with
    | zero => cases e; exact ⟨_, rfl, .ref p, F0, rfl, fun _ => ⟨p, rfl, hs⟩, tr.r, tr.nd⟩
    | succ i =>
      have e' : (ds.map SL.val ++ List.replicate M SL.no)[i]? = some x := e
      show ∃ v, (ws.map some ++ List.replicate M none)[i]? = some v ∧ _
      rw [List.getElem?_append] at e' ⊢
      rw [List.length_map] at e' ⊢
      rw [hl]
      by_cases hi : i < ds.length
      · rw [if_pos hi] at e' ⊢
        rw [List.getElem?_map] at e' ⊢
        cases q : ds[i]? with
        | none => rw [q] at e'; cases e'
        | some d =>
          rw [q] at e'; cases e'
          obtain ⟨v, h1, h2⟩ := r.get q
          exact ⟨some v, by rw [h1]; rfl, v, rfl, h2⟩
      · rw [if_neg hi] at e' ⊢
        have hx := List.mem_replicate.mp (List.mem_of_getElem? e')
        have hlt : i - ds.length < M := by
          have := (List.getElem?_eq_some_iff.mp e').1
          simpa using this
        cases hx.2
        exact ⟨none, by rw [List.getElem?_replicate, if_pos hlt], trivial⟩
  · cases i with
    | zero =>
      cases e; cases e2
      obtain ⟨K', G', u', F', e, r', m⟩ := o
      cases e
      rw [r'.uniq tr.r] at m
      exact ⟨tr.g q m, delF_in m⟩
    | succ i => exact absurd o (noown i x v q e)
  · cases i with
    | zero =>
      cases j with
      | zero => rfl
      | succ j => exact absurd o2 (noown j y u q e3)
    | succ i => exact absurd o1 (noown i x v q e1)
def endT (c : Str) (env : Env) : Option (List (Str × T)) := match env.getD 0 .no with
  | .tre true (.ins c' ts) => if c' = c then some ts else none
  | _ => none
def retT (c : Str) : Out → RT
  | .nx env => (match endT c env with
    | some ts => .ok .non ts
    | none => .stuck)
  | .rtE ev env => (match ev with
    | .fz d => (match endT c env with
      | some ts => .ok d ts
      | none => .stuck)
    | _ => .stuck)
  | .exc e env => (match endT c env with
    | some ts => .exc e ts
    | none => .stuck)
  | _ => .stuck
def runT (N : Nat) (c : Str) (b : Env → Out) : FnT := fun ts ds => retT c (b (.tre true (.ins c ts) :: (ds.map SL.val ++ List.replicate (N - (ds.length + 1)) SL.no)))
theorem endT_ok {K : PySem.W.Frag} {C : CT} {c : Str} {env : Env} {ts : List (Str × T)} {a : Addr} {Z : Ent} {G' H' : Hp} {σ : L2.St} (er : ER ⟨K, ⟨C.cls, none, some a, C.so⟩⟩ Z G' H' σ env) (h : endT c env = some ts) : ∃ F1, TrOk ⟨K, C⟩ G' H' a c ts F1 ∧ ∀ b ∈ F1, Z.H b = none := by
  unfold endT at h
  cases hq : env.getD 0 .no with
  | tre so t =>
    rw [hq] at h
    cases so with
    | false => cases h
    | true =>
    cases t with
    | ins c' ts' =>
      dsimp only at h
      by_cases hcc : c' = c
      · rw [if_pos hcc] at h
        cases h
        subst hcc
        have hi := getD_some hq (by simp)
        obtain ⟨v, h1, u, F, rfl, hsl, r, nd⟩ := er.at' 0 _ hi
        obtain ⟨p, rfl, hp⟩ := hsl rfl
        cases hp
        have ow : ∀ b ∈ F, (SL.tre true (.ins c' ts)).owns H' (some (.ref a)) b := fun b m => ⟨_, G', _, _, rfl, r, m⟩
        exact ⟨F, ⟨TRep.cx0 (K := ⟨K, ⟨C.cls, none, some a, C.so⟩⟩) (K' := ⟨K, C⟩) rfl rfl r, nd, fun b m => (er.own 0 _ _ b hi h1 (ow b m)).1⟩, fun b m => (er.own 0 _ _ b hi h1 (ow b m)).2⟩
      · rw [if_neg hcc] at h; cases h
    | _ => cases h
  | _ => rw [hq] at h; cases h
theorem fn_methT {P : Program} {w : World} {mg : Str → Option Value} {base : Heap} {K : PySem.W.Frag} {C : CT} {c x qual : Str} {params : Arguments} {body : List Stmt} {scope : Scope} {dvs : List V} {kws : List (Str × V)} {f : Addr} {fd : FuncData} {N ps : List Str} {k n : Nat} {b : Env → Out} (F : FunD K x qual params body scope dvs kws f fd) (S : FnScope N ps scope) (hn : ps.length = n + 1)
    (hbody : ∀ (a : Addr) (cdv : Value) (A : Around) (outer : List PySem.Env) (s : Shared) (H : Hp) (E : XK), Room k (A.deeper (envOfC qual scope s.heap.objs.size f cdv)) →
      PassesOwn (model P w) (A.deeper (envOfC qual scope s.heap.objs.size f cdv)) (envOfC qual scope s.heap.objs.size f cdv) (cxOf (L2.CX P w) P w K mg base N qual scope f cdv A outer s H E).xe →
      Takes (cxOf (L2.CX P w) P w K mg base N qual scope f cdv A outer s H E) (fun cls d _ H => E cls d H) → DSs (cxOf (L2.CX P w) P w K mg base N qual scope f cdv A outer s H E) ⟨C.cls, none, some a, C.so⟩ (fun cls d _ H => E cls d H) body b) :
    FnOk P w K mg base (L2.CX P w) (k + 1) f fd ps (spMT ⟨K, C⟩ c n (runT N.length c b)) := by
  refine F.ok S (fun vs H Q E ⟨a, ws, G, ts, F0, ds, e, _, _, r, l, _⟩ => by rw [e, List.length_cons, r.length, l, hn]) fun cdv A outer s H vs Q E hr ⟨a, ws, G, ts, F0, ds, e, tr0, hs, r, l, h⟩ => ?_
  subst e
  have r2 : Reps ⟨K, ⟨C.cls, none, some a, C.so⟩⟩ G ws ds := Reps.cx (K := ⟨K, C⟩) (K' := ⟨K, ⟨C.cls, none, some a, C.so⟩⟩) rfl rfl r
  have tr : TrOk ⟨K, ⟨C.cls, none, some a, C.so⟩⟩ G H a c ts F0 := TrOk.cx (K := ⟨K, C⟩) (K' := ⟨K, ⟨C.cls, none, some a, C.so⟩⟩) rfl rfl tr0
  have hst : start N (V.ref a :: ws) = some (.ref a) :: (ws.map some ++ List.replicate (N.length - (ds.length + 1)) none) := by
    unfold L2.start
    rw [List.map_cons, List.cons_append, List.length_cons, r.length]
  refine ⟨_, (hbody a cdv A outer s H E hr (passes_of rfl) (takes_of rfl rfl rfl rfl)).pss, ⟨G, delF H F0⟩, G, _, by rw [hst]; exact er_startT hs rfl tr r2 (N.length - (ds.length + 1)), ?_⟩
  unfold runT at h
  have mk : ∀ {G' H' : Hp} {σ : L2.St} {env : Env}, ER ⟨K, ⟨C.cls, none, some a, C.so⟩⟩ ⟨G, delF H F0⟩ G' H' σ env → MkT G H F0 G' H' := fun {G' H' σ env} er => ⟨er.zg, er.sub, er.zh, fun b g nt => by
    cases q : G' b with
    | none => rfl
    | some o => exact absurd nt (er.new b (by rw [q]; simp) g)⟩
  show Post _ _ _ _ _ _
  cases hb : b (.tre true (.ins c ts) :: (ds.map SL.val ++ List.replicate (N.length - (ds.length + 1)) SL.no)) with
  | nx env =>
    rw [hb] at h
    unfold retT at h
    dsimp only at h
    cases he : endT c env with
    | none => rw [he] at h; exact h.elim
    | some ts' =>
      rw [he] at h
      intro σ H' G' s' er
      obtain ⟨F1, w1, w2⟩ := endT_ok er he
      exact h .non G' H' F1 (mk er) .non w1 w2
  | rtE ev env =>
    rw [hb] at h
    unfold retT at h
    dsimp only at h
    cases ev with
    | ow n w => exact h.elim
    | fz d =>
      dsimp only at h
      cases he : endT c env with
      | none => rw [he] at h; exact h.elim
      | some ts' =>
        rw [he] at h
        intro σ v H' G' Hs s' er hz va
        obtain ⟨F1, w1, w2⟩ := endT_ok er he
        exact h v G' H' F1 (mk er) (Rep.cx (K := ⟨K, ⟨C.cls, none, some a, C.so⟩⟩) (K' := ⟨K, C⟩) rfl rfl va) w1 w2
  | exc e env =>
    rw [hb] at h
    unfold retT at h
    dsimp only at h
    cases he : endT c env with
    | none => rw [he] at h; exact h.elim
    | some ts' =>
      rw [he] at h
      intro σ H' G' cls d s' er kx
      obtain ⟨F1, w1, w2⟩ := endT_ok er he
      exact h cls d G' H' F1 (mk er) (ExcOk.cx (K := ⟨K, ⟨C.cls, none, some a, C.so⟩⟩) (K' := ⟨K, C⟩) rfl rfl kx) w1 w2
  | ret ev => rw [hb] at h; exact h.elim
  | bk e => rw [hb] at h; exact h.elim
  | ct e => rw [hb] at h; exact h.elim
  | stuck => rw [hb] at h; exact h.elim
def FnGT (P : Program) (w : World) (K : KC) (mg : Str → Option Value) (base : Heap) (k : Nat) (x c : Str) (ps : List Str) (F : FnT) : Prop :=
  ∃ fd, FnOk P w K.K mg base (L2.CX P w) k (He.ga K.K x) fd ps (spMT K c (ps.length - 1) F) ∧ Binds K.K fd ps [] ∧ PySem.W.keepIn K.K (.ref (He.ga K.K x)) = true ∧ mg x = some (.ref (He.ga K.K x))
def MeT (P : Program) (w : World) (K : KC) (mg : Str → Option Value) (base : Heap) (k : Nat) (c m : Str) (n : Nat) (F : FnT) : Prop :=
  ∃ (Ca f : Addr) (fd : FuncData) (ps : List Str), K.C.cls c = some Ca ∧ Cls K.K Ca ∧ Meth K.K Ca m f ∧ FnOk P w K.K mg base (L2.CX P w) k f fd ps (spMT K c n F) ∧ Binds K.K fd ps []
theorem FnGT.cx {P : Program} {w : World} {K : PySem.W.Frag} {C C' : CT} {mg : Str → Option Value} {base : Heap} {k : Nat} {x c : Str} {ps : List Str} {F : FnT} (h2 : C.cls = C'.cls) (h : FnGT P w ⟨K, C⟩ mg base k x c ps F) : FnGT P w ⟨K, C'⟩ mg base k x c ps F := by
  obtain ⟨fd, f1, f2, f3, f4⟩ := h
  exact ⟨fd, f1.imp fun vs H Q E z => spMT_cx (K := ⟨K, C⟩) (K' := ⟨K, C'⟩) rfl h2 z, f2, f3, f4⟩
theorem MeT.cx {P : Program} {w : World} {K : PySem.W.Frag} {C C' : CT} {mg : Str → Option Value} {base : Heap} {k n : Nat} {c m : Str} {F : FnT} (h2 : C.cls = C'.cls) (h : MeT P w ⟨K, C⟩ mg base k c m n F) : MeT P w ⟨K, C'⟩ mg base k c m n F := by
  obtain ⟨Ca, f, fd, ps, f1, f2, f3, f4, f5⟩ := h
  exact ⟨Ca, f, fd, ps, h2 ▸ f1, f2, f3, f4.imp fun vs H Q E z => spMT_cx (K := ⟨K, C⟩) (K' := ⟨K, C'⟩) rfl h2 z, f5⟩
def treAt (c : Str) (i : Nat) (env : Env) : Option (Bool × List (Str × T)) := match env.getD i .no with
  | .tre s (.ins c' ts) => if c' = c then some (s, ts) else none
  | _ => none
theorem treAt_inv {c : Str} {i : Nat} {env : Env} {s : Bool} {ts : List (Str × T)} (h : treAt c i env = some (s, ts)) : env[i]? = some (.tre s (.ins c ts)) := by
  unfold treAt at h
  split at h
  · rename_i s' c' ts' e
    split at h
    · rename_i hc
      cases h
      subst hc
      exact getD_some e (by simp)
    · cases h
  · cases h
def noFldT (m : Str) (ts : List (Str × T)) : Bool := (ts.lookup m).isNone
def backT (c : Str) (i : Nat) (s : Bool) (env : Env) : RT → RS D
  | .ok d ts' => .ok d (env.set i (.tre s (.ins c ts')))
  | .exc e ts' => .exc e (env.set i (.tre s (.ins c ts')))
  | .stuck => .stuck
def mCallT (c : Str) (chk : List (Str × T) → Bool) (F : FnT) (n i : Nat) (a : Env → Rz (List EV)) : Env → RS D := fun env => match treAt c i env with
  | some (s, ts) => if chk ts = true then (match a env with
    | .ok evs => (match allFz evs with
      | some ds => if ds.length = n then backT c i s env (F ts ds) else .stuck
      | none => .stuck)
    | .exc e => .exc e env
    | .stuck => .stuck) else .stuck
  | none => .stuck
theorem er_backT {K : KC} {Z : Ent} {G1 H1 G' H' : Hp} {σ : L2.St} {env : Env} {p : Addr} {i : Nat} {s : Bool} {c : Str} {ts ts' : List (Str × T)} {F0 F1 : List Addr} (er : ER K Z G1 H1 σ env) (hi : env[i]? = some (.tre s (.ins c ts))) (hs : σ[i]? = some (some (.ref p))) (r0 : TRep K G1 H1 (.ref p) (.ins c ts) F0) (k : MkT G1 H1 F0 G' H')
    (t : TrOk K G' H' p c ts' F1) (hb : ∀ b ∈ F1, delF H1 F0 b = none) : ER K Z G' H' σ (env.set i (.tre s (.ins c ts'))) := by
  have ow : ∀ b ∈ F0, (SL.tre s (.ins c ts)).owns H1 (some (.ref p)) b := fun b m => ⟨K, G1, _, _, rfl, r0, m⟩
  have wo : ∀ b, (SL.tre s (.ins c ts)).owns H1 (some (.ref p)) b → b ∈ F0 := fun b ⟨K', G', u', F', e, r', m⟩ => by cases e; rw [r0.uniq r']; exact m
  have g0 : ∀ b ∈ F0, G1 b = none ∧ Z.H b = none := fun b m => er.own i _ _ b hi hs (ow b m)
  have hzs : Sub Z.H (delF H1 F0) := sub_delF er.zh fun b m => (g0 b m).2
  obtain ⟨v, h1, u, Fo, e1, sl, _, _⟩ := er.at' i _ hi
  rw [hs] at h1; cases h1; cases e1
  refine er.repl hi hs k.g (hzs.trans k.h) k.s (fun a n z nt => ?_) (fun a vs e => ?_) (fun a nt no => ?_) ⟨.ref p, F1, rfl, sl, t.r, t.nd⟩ fun a oa => ?_
  · cases hG : G1 a with
    | none => exact n (k.n a hG (nt.mono hzs))
    | some o => exact er.new a (by rw [hG]; simp) z nt
  · have hne : a ∉ F0 := fun m => by obtain ⟨o', e', k⟩ := r0.nt a m; rw [e] at e'; cases e'; cases k
    exact k.h _ _ (by rw [delF_ne hne]; exact e)
  · have hne : a ∉ F0 := fun m => no (ow a m)
    refine ⟨fun o e => k.h _ _ (by rw [delF_ne hne]; exact e), fun e => k.n a e ?_⟩
    obtain ⟨o, e1, e2⟩ := nt
    exact ⟨o, by rw [delF_ne hne]; exact e1, e2⟩
  · obtain ⟨K', G'', u', F', e, r', m⟩ := oa
    cases e
    rw [r'.uniq t.r] at m
    have h0 := hb a m
    refine ⟨t.g a m, hzs.none h0, ?_⟩
    by_cases ha : a ∈ F0
    · exact .inl (ow a ha)
    · rw [delF_ne ha] at h0
      exact .inr (er.free h0)
section
variable {X : Cx} {C : CT} {W : WX}
theorem callT_core {c : Str} {chk : List (Str × T) → Bool} {F : FnT} {n i : Nat} {m : Env → Rz (List EV)} {σ : L2.St} {H : Hp} {Q : VK} (h : tM (kc X C) W (mCallT c chk F n i m) σ H Q) :
    ∃ p Ca dx us ts F0, σ[i]? = some (some (.ref p)) ∧ C.cls c = some Ca ∧ H p = some (.ins Ca dx us) ∧ (∃ G, TRepF (kc X C) G H us ts F0) ∧ chk ts = true ∧ tA (kc X C) W m σ H fun vs H1 => spMT (kc X C) c n F (.ref p :: vs) H1 Q (WE W σ) := by
  obtain ⟨Z, G, env, er, q⟩ := h
  unfold mCallT at q
  cases hi : treAt c i env with
  | none => rw [hi] at q; exact q.elim
  | some t =>
    obtain ⟨s, ts⟩ := t
    rw [hi] at q
    dsimp only at q
    have hi := treAt_inv hi
    obtain ⟨v, hs, u, F0, rfl, hsl, r, nd⟩ := er.at' i _ hi
    have r0 := id r
    cases r with
    | @ins p dx Ca _ us _ F1 k1 h3 rf =>
    by_cases hchk : chk ts = true
    · rw [if_pos hchk] at q
      refine ⟨p, Ca, dx, us, ts, F1, hs, k1, h3, ⟨G, rf⟩, hchk, Z, G, env, er, ?_⟩
      cases ha : m env with
      | stuck => rw [ha] at q; exact q.elim
      | exc e => rw [ha] at q; exact fun cls d G' H' x k => q cls d G' H' x.g (er.ext x) k
      | ok evs =>
        rw [ha] at q
        dsimp only at q
        intro vs G1 H1 x1 va
        cases hf : allFz evs with
        | none => rw [hf] at q; exact q.elim
        | some ds =>
          rw [hf] at q
          dsimp only at q
          by_cases hn : ds.length = n
          · rw [if_pos hn] at q
            have er1 := er.ext x1
            obtain ⟨v', hs', u', F', e', _, r', nd'⟩ := er1.at' i _ hi
            rw [hs] at hs'; cases hs'; cases e'
            have ow : ∀ b ∈ F', (SL.tre s (.ins c ts)).owns H1 (some (.ref p)) b := fun b m => ⟨_, G1, _, _, rfl, r', m⟩
            refine ⟨p, vs, G1, ts, F', ds, rfl, ⟨r', nd', fun b mb => (er1.own i _ _ b hi hs (ow b mb)).1⟩, x1.s, allFz_ok hf va, hn, ?_⟩
            cases hF : F ts ds with
            | stuck => rw [hF] at q; exact q.elim
            | exc e ts' => rw [hF] at q; exact fun cls dd G' H' F1 k kx t' b' => q cls dd G' H' (x1.g.trans k.g) (er_backT er1 hi hs r' k t' b') kx
            | ok d ts' => rw [hF] at q; exact fun v G' H' F1 k kx t' b' => q G' H' (x1.g.trans k.g) (er_backT er1 hi hs r' k t' b') v kx
          · rw [if_neg hn] at q; exact q.elim
    · rw [if_neg hchk] at q; exact q.elim
theorem TRepF.look_none {K : KC} {G H : Hp} : ∀ {vs : List (Str × V)} {ts : List (Str × T)} {F : List Addr} {f : Str}, TRepF K G H vs ts F → ts.lookup f = none → vs.lookup f = none
  | _, _, _, _, .nil, _ => rfl
  | _, _, _, f, @TRepF.cons _ _ _ g v vs t ts _ _ a b, e => by
    rw [List.lookup_cons] at e ⊢
    cases q : (f == g) with
    | true => rw [q] at e; cases e
    | false => rw [q] at e; exact TRepF.look_none b e
theorem dm_meT (i : Nat) {c m : Str} {F : FnT} {k n : Nat} {y : Str} {py : Pos} {e : Expr} {es : List Expr} {ma : Env → Rz (List EV)} {apos pos : Pos} {pl : Sem Bool} (MG : MeT X.prog X.w (kc X C) X.mg X.base k c m n F) (hr : Room k X.A) (tk : Takes X W) (ha : DA X C W (e :: es) ma)
    (hN : X.N[i]? = some y := by rfl) (hv : Vis X.env.scope y := by first | exact Or.inl rfl | exact Or.inr (Or.inl rfl) | exact Or.inr (Or.inr rfl)) (hd : (y == ("__debug__" : Str)) = false := by decide) (hcd : (y == ("__classdict__" : Str)) = false := by decide)
    (hst : starEach (e :: es) X.env = (false, eval e X.env) :: starEach es X.env := by rfl) (hpl : (backTo pos (starEach es X.env)).any (·.1) = false := by rfl)
    (ht : eval (.Call (.Attribute (.Name y py) m apos) (e :: es) [] pos) X.env = (do
      let ov ← eval (.Name y py) X.env
      standAt apos.atName
      let (g, first) ← holding [ov] (getMethod ov m pl)
      callWith pos g first (backTo pos (starEach (e :: es) X.env)) (backToKw pos (keywordEach [] X.env))) := by rfl) : DM X C W (.Call (.Attribute (.Name y py) m apos) (e :: es) [] pos) (mCallT c (noFldT m) F n i ma) := by
  obtain ⟨Ca, f, fd, ps, hC, hc, hm, FO, hb⟩ := MG
  refine ⟨PE.imp (pe_methS (pl := pl) (pe_var hN hv hd hcd) hc hm FO hr hb tk ha.pa hst hpl ht) fun σ H Q h => ?_⟩
  obtain ⟨q, Ca', dx, us, ts, F0, hs, hC', hp, ⟨G, rf⟩, hk, t⟩ := callT_core h
  have z : C.cls c = some Ca := hC
  rw [z] at hC'
  cases hC'
  exact ⟨.ref q, hs, q, dx, us, rfl, hp, rf.look_none (by simpa [noFldT] using hk), t⟩
end
end DL
namespace DL
open PySem PySem.Spec PyProof.Rows L2
theorem pure_ev {K : KC} {Z : Ent} {H G' H' Gn Hn : Hp} {v : V} {ev : EV} (s : Sub G' H') (k : EVok K Z H G' H' v ev) (hp : pureE ev = true) (tr : Sub (tups H') Gn) (kp : ∀ p o, H p = none → H' p = some o → Hn p = some o) (gn : ∀ p, H p = none → NT H' p → Gn p = none) : EVok K Z H Gn Hn v ev := by
  cases ev with
  | fz d => exact (pure_rep (Rep.mono s k) hp).mono tr
  | ow n w' =>
    cases n with
    | false => cases hp
    | true =>
      cases w' with
      | lst ds =>
        obtain ⟨p, e, ⟨us, e1, r1⟩, h2, h3, h4⟩ := k
        have h3' : H p = none := h4 rfl
        exact ⟨p, e, ⟨us, kp p _ h3' e1, (pure_reps (r1.mono s) hp).mono tr⟩, gn p h3' ⟨_, e1, rfl⟩, h3, h4⟩
      | _ => cases hp
def mLendK (i : Nat) (cs : List Str) (f : Str) (m : Env → Rz EV) : Env → Rz EV := fun env => match fldTK cs f (env.getD i .no) with
  | some (_, c, ts, kvs) => (match m (env.set i (.val (.ins c (dTf (tputF f (.dct true true (leafP kvs)) ts))))) with
    | .ok ev => if pureE ev = true then .ok ev else .stuck
    | _ => .stuck)
  | none => .stuck
section
variable {X : Cx} {C : CT} {W : WX}
theorem mut_nt {u : HO} (h : Mut (some u)) (od : Obj) : noTup u = true ∧ noTup (.frz od u) = true := by
  cases u <;> first | exact ⟨rfl, rfl⟩ | exact h.elim
theorem de_lendK (i : Nat) (cs : List Str) (f : Str) {e : Expr} {m : Env → Rz EV} (h : DE X C W e m) : DE X C W e (mLendK i cs f m) := ⟨PE.imp (pe_lock h.pe) fun σ H Q ⟨Z, G, env, er, q⟩ => by
  unfold mLendK at q
  cases hw : fldTK cs f (env.getD i .no) with
  | none => rw [hw] at q; exact q.elim
  | some z =>
    obtain ⟨s, c, ts, kvs⟩ := z
    rw [hw] at q
    dsimp only at q
    obtain ⟨e0, hcc, hl⟩ := fldTK_inv hw
    have hi := getD_some e0 (by simp)
    obtain ⟨l, u, h1, h2, h3⟩ := er.lockF hi hl
    refine ⟨l, u, h1, h2, fun od => ?_⟩
    have hli : i < env.length := (List.getElem?_eq_some_iff.mp hi).1
    obtain ⟨G2, s2, er2⟩ := (h3 od).freezeT (i := i) (List.getElem?_set_self hli)
    rw [List.set_set] at er2
    refine ⟨Z, G2, _, er2, ?_⟩
    cases hm : m (env.set i (.val (.ins c (dTf (tputF f (.dct true true (leafP kvs)) ts))))) with
    | stuck => rw [hm] at q; exact q.elim
    | exc e => rw [hm] at q; exact q.elim
    | ok ev =>
      rw [show m (env.set i (.val (T.ins c (tputF f (.dct true true (leafP kvs)) ts)).d)) = .ok ev from hm]
      rw [hm] at q
      dsimp only at q
      by_cases hp : pureE ev = true
      · rw [if_pos hp] at q
        intro v G' H' x k
        have hl' : H' l = some (.frz od u) := x.h _ _ upd_same
        obtain ⟨nt1, nt2⟩ := mut_nt h2 od
        refine ⟨hl', ?_⟩
        have kH : ∀ a o, a ≠ l → H a = some o → H' a = some o := fun a o hne e => x.h a o (by rw [upd_ne hne]; exact e)
        have sH : Sub H (L2.upd H' l u) := fun a o e => by
          by_cases ha : a = l
          · subst ha; rw [upd_same]; rw [h1] at e; exact e
          · rw [upd_ne ha]; exact kH a o ha e
        have tl : tups H' l = none := tups_nt ⟨_, hl', nt2⟩
        have sT : Sub (tups H') (L2.upd H' l u) := fun a o e => by
          have ha : a ≠ l := fun z => by subst z; rw [tl] at e; cases e
          rw [upd_ne ha]; exact tups_sub H' a o e
        have ntN : ∀ a, NT H a → NT H' a := fun a ⟨o, e, k⟩ => by
          by_cases ha : a = l
          · subst ha; exact ⟨_, hl', nt2⟩
          · exact ⟨o, kH a o ha e, k⟩
        have lo : Ext G H (orH G (tups H')) (L2.upd H' l u) := ⟨orH_l _ _, sH, orH_sub (er.sub.trans sH) sT, fun a e n => by rw [orH_none e]; exact tups_nt (ntN a n)⟩
        have nl : ∀ p, H p = none → p ≠ l := fun p e z => by subst z; rw [h1] at e; cases e
        have ku : ∀ {p}, H p = none → (L2.upd H l (.frz od u)) p = none := fun {p} e => by rw [upd_ne (nl p e)]; exact e
        have uk : ∀ {p}, (L2.upd H l (.frz od u)) p = none → H p = none := fun {p} e => by
          by_cases hpl : p = l
          · subst hpl; rw [upd_same] at e; cases e
          · rw [upd_ne hpl] at e; exact e
        have k0 : EVok (kc X C) Z H G' H' v ev := by
          cases ev with
          | fz d => exact k
          | ow n w => obtain ⟨p, e, a1, a2, a3, a4⟩ := k; exact ⟨p, e, a1, a2, a3, fun z => uk (a4 z)⟩
        refine q v _ _ lo (pure_ev x.s k0 hp (orH_r (er.sub.trans sH) sT) (fun p o hn e => by rw [upd_ne (nl p hn)]; exact e) fun p hn nt => ?_)
        rw [orH_none (er.sub.none hn)]; exact tups_nt nt
      · rw [if_neg hp] at q; exact q.elim⟩
end
end DL
namespace DL
open PySem PySem.Spec PyProof.Rows L2
def sDDelT (td ty : TE) : TS := fun D σ H => td σ H fun x H1 => ty σ H1 fun y H2 => ∃ a kvs k b, x = .ref a ∧ H2 a = some (.dT kvs) ∧ y = .ref b ∧ H2 b = some (.tup (k.map kV)) ∧ (valV kvs k).isSome = true ∧ D.nx σ (upd H2 a (.dT (dropK kvs k)))
section
variable {X : Cx} {o i : Expr} {pos tpos : Pos} {td ty : TE}
theorem ps_ddelT (hu : X.A.units + 1 < cLine) (ho : PE X o td) (hi : PE X i ty) : PS X (.Delete [.Subscript o i tpos] pos) (sDDelT td ty) := by
  refine ⟨fun pins s σ H D I h => ?_⟩
  refine wpAny_Delete (wpAny_deleteEach_cons (wpAny_delete_Subscript (thn (ho.run pins s σ H _ I h) fun u s1 ⟨x, H1, I1, rx, q1⟩ => thn (hi.run pins s1 σ H1 _ I1 q1) fun iv s2 ⟨y, H2, I2, ry, a, kvs, k, b, ex, ea, ey, eb, l, q2⟩ => ?_)))
  subst ex ey
  obtain rfl : u = Value.ref a := rx
  obtain rfl : iv = Value.ref b := ry
  obtain ⟨z, hd, xs', rel, dd⟩ := dt_of I2.hok ea
  have hz : xs'.length ≤ sizeLine := by rw [← Paired.length rel]; exact z
  obtain ⟨v0, ev⟩ := Option.isSome_iff_exists.mp l
  have r := rel.val k
  rw [ev] at r
  obtain ⟨p, hp⟩ : ∃ p, atKey xs' k = some p := by
    cases e : atKey xs' k with
    | none => rw [e] at r; exact (show False from r).elim
    | some p => exact ⟨p, rfl⟩
  refine wpAny_delItem_heap (knd := tupleKind (mixKind X.prog X.w)) (hsz := hz) (tupleKind_room_in1 hu) (key_of I2.hok eb) hd dd hp fun h' dd' hs => ?_
  obtain ⟨o, es, ep, hq, h2, h3, h4, _, h5⟩ := dd'
  have I3 : Inv X pins σ (upd H2 a (.dT (dropK kvs k))) { s2 with heap := h', toks := s2.toks + (tupleKind (mixKind X.prog X.w)).draws k } :=
    d_write I2 (by rw [ea]; exact True.intro) hs ⟨o, hq⟩ ⟨Nat.le_trans (dropK_le kvs k) z, hd, _, (DX.KT_drop k rel).keeps (fun c ys ec => (by rw [upd_ne (ne_of ec ea (fun z => nomatch z))]; exact ec)), o, es, ep, hq, h2, h3, h4, h5⟩
  exact wpAny_deleteEach_nil ⟨σ, _, I3, q2⟩
end
def ddrop (kvs : List (D × D)) (k : D) : List (D × D) := kvs.filter fun kv => !keyEq kv.1 k
theorem RepT.drop {K : KC} {G : Hp} {k : List Key} : ∀ {kvs : List (List Key × V)} {ds : List (D × D)}, RepT K G kvs ds → RepT K G (dropK kvs k) (ddrop ds (.tup (k.map dkV)))
  | _, _, .nil => .nil
  | _, _, .cons (k := j) (v := v) (vs := vs) (d := d) (ds := ds) a b => by
    unfold dropK ddrop
    by_cases z : j = k
    · rw [List.filter_cons_of_neg (by simp [z]), List.filter_cons_of_neg (by show ¬ (!keyEq (.tup (j.map dkV)) (.tup (k.map dkV))) = true; rw [keyEq_dt]; simp [z])]
      exact b.drop
    · rw [List.filter_cons_of_pos (by simpa using z), List.filter_cons_of_pos (by show (!keyEq (.tup (j.map dkV)) (.tup (k.map dkV))) = true; rw [keyEq_dt]; simp [z])]
      exact .cons a b.drop
section
variable {X : Cx} {C : CT} {W : WX}
def mDelFK (i : Nat) (cs : List Str) (f : Str) (mk : Env → Rz EV) : Env → Out := fun env => match fldTK cs f (env.getD i .no) with
  | some (s, c, ts, kvs) => (match mk env with
    | .ok (.fz k) => if isKeyD true k = true ∧ (dfind kvs k).isSome = true then .nx (env.set i (.tre s (.ins c (tputF f (.dct true false (leafP (ddrop kvs k))) ts)))) else .stuck
    | .exc e => .exc e env
    | _ => .stuck)
  | none => .stuck
theorem ds_delFK (i : Nat) {cs : List Str} {x f : Str} {k : Expr} {mk : Env → Rz EV} {xp fp pos' pos : Pos} (hu : X.A.units + 1 < cLine) (hc : FldOk X.K C cs f) (hk : DE X C W k mk) (hN : X.N[i]? = some x := by rfl) (hx : Vis X.env.scope x := by first | exact Or.inl rfl | exact Or.inr (Or.inl rfl) | exact Or.inr (Or.inr rfl)) (hd : (x == ("__debug__" : Str)) = false := by decide)
    (hcd : (x == ("__classdict__" : Str)) = false := by decide) (hb : attributeBase (.Name x xp) f X.env (eval (.Name x xp) X.env) = eval (.Name x xp) X.env := by rfl) :
    DS X C W (.Delete [.Subscript (.Attribute (.Name x xp) f fp) k pos'] pos) (mDelFK i cs f mk) :=
  ⟨PS.imp (ps_ddelT hu (pe_fld (pe_var hN hx hd hcd) hb) hk.pe) fun D σ H ⟨Z, G, env, er, q⟩ => by
    unfold mDelFK at q
    cases hw : fldTK cs f (env.getD i .no) with
    | none => rw [hw] at q; exact q.elim
    | some z =>
      obtain ⟨s', c, ts, kvs⟩ := z
      rw [hw] at q
      dsimp only at q
      obtain ⟨e0, hcc, hl⟩ := fldTK_inv hw
      have hi := getD_some e0 (by simp)
      obtain ⟨p, Ca, dx, vs, l, us, h1, k1, h3, e1, hdl, rt, gl, zl, _⟩ := er.fldK hi hl
      obtain ⟨k2, k3⟩ := hc c hcc Ca k1
      refine ⟨.ref p, h1, p, Ca, dx, vs, .ref l, rfl, h3, k2, k3, e1, Z, G, env, er, ?_⟩
      cases hm : mk env with
      | stuck => rw [hm] at q; exact q.elim
      | exc e =>
        rw [hm] at q
        exact fun cls d' G' H' x k => q σ H' G' cls d' x.g (er.ext x) k
      | ok b =>
        rw [hm] at q
        intro v2 G3 H3 x3 vb
        cases b with
        | ow n w => exact q.elim
        | fz kd =>
          dsimp only at q
          by_cases hz : isKeyD true kd = true ∧ (dfind kvs kd).isSome = true
          · rw [if_pos hz] at q
            have e3 := er.ext x3
            obtain ⟨p', Ca', dx', vs', l', us', h1', k1', h3', e1', hdl', rt', _, _, go⟩ := e3.fldK hi hl
            rw [h1] at h1'; cases h1'
            rw [x3.h _ _ h3] at h3'; cases h3'
            rw [e1] at e1'; cases e1'
            obtain ⟨k, hk⟩ := Option.isSome_iff_exists.mp (show (keyT? kd).isSome = true from hz.1)
            have ek := keyT?_ok hk
            subst ek
            obtain ⟨b', eb, sq⟩ := rep_keyT (K := kc X C) vb
            have hsome : (valV us' k).isSome = true := by
              rw [(rt'.find (k := k)).some_eq]; exact hz.2
            exact ⟨l, us', k, b', rfl, hdl', eb, x3.s _ _ sq, hsome, q σ _ G3 x3.g (go _ _ rt'.drop)⟩
          · rw [if_neg hz] at q; exact q.elim⟩
end
def rSetO (Ca : Addr) (sp : Sp) : TSet := fun o i v H Q => ∃ p dx fs, o = .ref p ∧ H p = some (.ins Ca dx fs) ∧ sp [.ref p, i, v] H (fun _ H' => Q H') fun _ _ _ => False
section
variable {X : Cx} {C : CT} {W : WX}
theorem set_own {Ca f : Addr} {k : Nat} {fd : FuncData} {ps : List Str} {sp : Sp} (hm : Meth X.K Ca "__setitem__" f) (hq : PySem.W.noSeq X.K Ca = true) (FO : FnOk X.prog X.w X.K X.mg X.base (L2.CX X.prog X.w) k f fd ps sp) (hr : Room k X.A) (hb : Binds X.K fd ps []) : PSet X (rSetO Ca sp) := by
  intro pins s σ H o i v ov iv u Q I ro ri rv h
  obtain ⟨p, dx, fs, eo, ea, q⟩ := h
  subst eo
  obtain rfl : ov = Value.ref p := ro
  obtain ⟨mA, O, _⟩ := ins_get I.hok ea
  obtain ⟨od, J, _⟩ := O.look
  obtain ⟨mf, hF⟩ := I.fr
  refine PySem.W.ksp_setItem hF I.ok.mod.kin J hq hm.at_ hm.fn ?_
  refine wpAny_mono (run_at (Q := fun _ H' => Q H') hr I.env0 FO hb I (us := [.ref p, iv, u]) (vs := [.ref p, i, v]) (.cons rfl (.cons ri (.cons rv .nil))) q) (fun _ s' z => ?_) fun _ _ z => z
  obtain ⟨x, H', I', _, q'⟩ := z
  exact ⟨H', I', q'⟩
def mSetIO (c : Str) (F : FnT) (i : Nat) (mk mv : Env → Rz EV) : Env → Out := onE mv fun a env => match a.fr, treAt c i env with
  | .fz d, some (s, ts) => onE mk (fun b env => match b with
    | .fz kd => (match F ts [kd, d] with
      | .ok _ ts' => .nx (env.set i (.tre s (.ins c ts')))
      | _ => .stuck)
    | _ => .stuck) env
  | _, _ => .stuck
theorem ds_setIO (i : Nat) {c : Str} {F : FnT} {kl : Nat} {x : Str} {k v : Expr} {mk mv : Env → Rz EV} {xp pos' pos : Pos} (MG : MeT X.prog X.w (kc X C) X.mg X.base kl c "__setitem__" 2 F) (hq : ∀ Ca, C.cls c = some Ca → fnSq X.K Ca "__setitem__" = true) (hr : Room kl X.A) (hk : DE X C W k mk) (hv : DE X C W v mv) (hN : X.N[i]? = some x := by rfl) (hx : Vis X.env.scope x := by first | exact Or.inl rfl | exact Or.inr (Or.inl rfl) | exact Or.inr (Or.inr rfl)) (hd : (x == ("__debug__" : Str)) = false := by decide)
    (hcd : (x == ("__classdict__" : Str)) = false := by decide) (hs : swapsWithSole [.Subscript (.Name x xp) k pos'] v pos.line X.env = pure false := by rfl) (hw : swappedStores [.Subscript (.Name x xp) k pos'] v X.env = pure none := by rfl)
    (h1 : (assignEach [.Subscript (.Name x xp) k pos'] X.env).map (·.2) = [assign (.Subscript (.Name x xp) k pos') X.env] := by rfl)
    (ha : ∀ v, assign (.Subscript (.Name x xp) k pos') X.env v = (do
      let ov ← holding [v] (eval (.Name x xp) X.env)
      let iv ← holding [v, ov] (eval k X.env)
      standAt pos'
      holding [v, ov, iv] (setItem ov iv v)
      release [v, ov, iv] []) := by intro _; rfl) :
    DS X C W (.Assign [.Subscript (.Name x xp) k pos'] v pos) (mSetIO c F i mk mv) := by
  obtain ⟨Ca, f, fd, ps, hC, hcl, hm, FO, hbd⟩ := MG
  have hq' : PySem.W.noSeq X.K Ca = true := (He.ba (hq Ca hC)).2
  refine ⟨PS.imp (ps_asg hv.pe (pg_sub (pe_var hN hx hd hcd) hk.pe (set_own hm hq' FO hr hbd) ha) hs hw h1) fun D σ H h => onE_go h fun Z G1 H1 env v a er z s va q fr => ?_⟩
  obtain ⟨G2, s2, er2, va2⟩ := frz_go er va fr
  split at q
  · rename_i d s' ts ha' hw'
    rw [ha'] at va2
    have hi := treAt_inv hw'
    obtain ⟨v', hs', u, F0, rfl, hsl, r, nd⟩ := er2.at' i _ hi
    have r0 := id r
    cases r with
    | @ins p dx Ca' _ us _ F1 k1 h3 rf =>
    have k1 : C.cls c = some Ca' := k1
    have hC : C.cls c = some Ca := hC
    rw [hC] at k1; cases k1
    refine ⟨.ref p, hs', Z, G2, env, er2, ?_⟩
    unfold onE at q
    cases hm' : mk env with
    | stuck => rw [hm'] at q; exact q.elim
    | exc e =>
      rw [hm'] at q
      exact fun cls d' G' H' x k => q σ H' G' cls d' (s2.trans x.g) (er2.ext x) k
    | ok b =>
      rw [hm'] at q
      intro v2 G3 H3 x3 vb
      dsimp only at q
      cases b with
      | ow n w => exact q.elim
      | fz kd =>
        dsimp only at q
        have er3 := er2.ext x3
        obtain ⟨v'', hs'', u', F', e', _, r', nd'⟩ := er3.at' i _ hi
        rw [hs'] at hs''; cases hs''; cases e'
        have ow : ∀ b ∈ F', (SL.tre s' (.ins c ts)).owns H3 (some (.ref p)) b := fun b m => ⟨_, G3, _, _, rfl, r', m⟩
        refine ⟨p, dx, us, rfl, x3.h _ _ h3, p, [v2, v], G3, ts, F', [kd, d], rfl, ⟨r', nd', fun b mb => (er3.own i _ _ b hi hs' (ow b mb)).1⟩, x3.s, .cons vb (.cons (Rep.mono x3.g va2) .nil), rfl, ?_⟩
        cases hF : F ts [kd, d] with
        | stuck => rw [hF] at q; exact q.elim
        | exc e ts' => rw [hF] at q; exact q.elim
        | ok dd ts' =>
          rw [hF] at q
          exact fun v G' H' F1 k kx t' b' => q σ H' G' ((s2.trans x3.g).trans k.g) (er_backT er3 hi hs' r' k t' b')
  · exact q.elim
theorem fnSqOk {K : PySem.W.Frag} {cl : List Str} {c m : Str} (h : fnSq K (He.ga K c) m = true) : ∀ Ca, (CC cl K).cls c = some Ca → fnSq K Ca m = true := fun Ca e => by
  have e : clsOf cl K c = some Ca := e
  rw [(clsOf_inv e).2]; exact h
def SmG (P : Program) (w : World) (K : KC) (mg : Str → Option Value) (base : Heap) (k : Nat) (x m : Str) (n : Nat) (F : Fn) : Prop :=
  ∃ Ca fd ps, mg x = some (.ref Ca) ∧ crB K.K Ca = true ∧ smB K.K Ca m = true ∧ FnOk P w K.K mg base (L2.CX P w) k (smA K.K Ca m) fd ps (spD K n F) ∧ Binds K.K fd ps []
theorem pe_smS {Ca : Addr} {m x : Str} {k : Nat} {fd : FuncData} {ps : List Str} {sp : Sp} {e : Expr} {es : List Expr} {t : TA} {p apos pos : Pos} {pl : Sem Bool} (hm : X.mg x = some (.ref Ca)) (r : ClX.CRead X.K Ca (.type "type")) (c : SMet X.K Ca m) (FO : FnOk X.prog X.w X.K X.mg X.base (L2.CX X.prog X.w) k (smA X.K Ca m) fd ps sp) (hb : Binds X.K fd ps []) (hr : Room k X.A) (tk : Takes X W) (ha : PA X (e :: es) t) (hg : Gl X x) (hdb : (x == ("__debug__" : Str)) = false)
    (hst : starEach (e :: es) X.env = (false, eval e X.env) :: starEach es X.env) (hpl : (backTo pos (starEach es X.env)).any (·.1) = false)
    (ht : eval (.Call (.Attribute (.Name x p) m apos) (e :: es) [] pos) X.env = (do
      let ov ← eval (.Name x p) X.env
      standAt apos.atName
      let (f, first) ← holding [ov] (getMethod ov m pl)
      callWith pos f first (backTo pos (starEach (e :: es) X.env)) (backToKw pos (keywordEach [] X.env)))) : PE X (.Call (.Attribute (.Name x p) m apos) (e :: es) [] pos) (tCallS sp (WE W) t) := ⟨fun pins s σ H Q I h => by
  obtain ⟨rest, hp⟩ := c.rc
  refine PySem.W.methodCall_KW (pl := pl) (ld_glob I hg hm (PySem.W.method_cls I.kIn r.ga ?_) hdb) ht
  refine PySem.W.cls_bind I.kIn r.rd c.at_ ?_
  refine wpAny_call (PySem.W.sm_get (s := { s with toks := s.toks + 1 }) I.kIn hp (PySem.W.handed_on c.hd ?_))
  refine PySem.W.callWith_K (h₀ := X.base) I.ok.mod.kin c.kp (thn (ha.run pos pins _ σ H _ (I.tok _) h) fun us s1 ⟨vs, H1, I1, rv, q⟩ => ⟨I1.kIn, ?_⟩) hst hpl
  exact run_fnS FO hr hb (passAt tk σ) I1 rv q⟩
theorem de_sm {F : Fn} {k n : Nat} {x m : Str} {p apos pos : Pos} {e : Expr} {es : List Expr} {ma : Env → Rz (List EV)} {pl : Sem Bool} (SG : SmG X.prog X.w (kc X C) X.mg X.base k x m n F) (hr : Room k X.A) (tk : Takes X W) (ha : DA X C W (e :: es) ma) (hg : Gl X x := by rfl) (hdb : (x == ("__debug__" : Str)) = false := by decide)
    (he : starEach (e :: es) X.env = (false, eval e X.env) :: starEach es X.env := by rfl) (hpl : (backTo pos (starEach es X.env)).any (·.1) = false := by rfl)
    (ht : eval (.Call (.Attribute (.Name x p) m apos) (e :: es) [] pos) X.env = (do
      let ov ← eval (.Name x p) X.env
      standAt apos.atName
      let (f, first) ← holding [ov] (getMethod ov m pl)
      callWith pos f first (backTo pos (starEach (e :: es) X.env)) (backToKw pos (keywordEach [] X.env))) := by rfl) : DE X C W (.Call (.Attribute (.Name x p) m apos) (e :: es) [] pos) (mFn F ma n) := by
  obtain ⟨Ca, fd, ps, hm, hcr, hsm, FO, hb⟩ := SG
  exact ⟨PE.imp (pe_smS hm (crB_ok hcr) (smB_ok hsm) FO hb hr tk ha.pa hg hdb he hpl ht) fun σ H Q h => tA_seq (f := fun evs _ => if evs.length = n then appF F evs else .stuck) h fun Z G1 H1 env vs a er va hs q => by
    by_cases hn : a.length = n
    · rw [if_pos hn] at q
      exact ask_fn er va hn q
    · rw [if_neg hn] at q; exact q.elim⟩
def mMkTG (i : Nat) (c : Str) (IF : TFn) : Env → Out := fun env => match IF [] with
  | .ok ts => .nx (env.set i (.tre false (.ins c ts)))
  | _ => .stuck
theorem ds_mkTG (i : Nat) {IF : TFn} {k : Nat} {c x : Str} {xp p pos' pos : Pos} (IG : InTr X.prog X.w (kc X C) X.mg X.base k c 0 IF) (hr : Room (k + 1) X.A) (tk : Takes X W) (hNd : X.N.Nodup) (hg : Gl X c := by rfl) (hdb : (c == ("__debug__" : Str)) = false := by decide) (hi : X.N[i]? = some x := by rfl) (hx : Loc X.env.scope x := by first | exact Or.inl rfl | exact Or.inr rfl)
    (hs : swapsWith (.Call (.Name c p) [] [] pos') (some (.Name x xp)) pos.line X.env = pure false := by rfl) (hf : X.fn x = true ∨ X.env.scope.names.lookup x = some .local := by first | exact .inl rfl | exact .inr rfl) :
    DS X C W (.Assign [.Name x xp] (.Call (.Name c p) [] [] pos') pos) (mMkTG i c IF) := by
  obtain ⟨Ca, f, fd, ps, hm, hC, M, FO, hb⟩ := IG
  refine ⟨PS.imp (ps_set hNd hi hx (pe_makeS0 M FO hr hb tk hg hm hdb) hs hf) fun D σ H ⟨Z, G, env, er, q⟩ => ?_⟩
  unfold mMkTG at q
  intro xa dx hxa hdx hne
  have up1 : Sub H (del (upd (upd H dx (.own xa)) xa (.ins Ca dx [])) xa) := fun b o e => by
    rw [del_ne (ne_of_none e hxa), upd_ne (ne_of_none e hxa), upd_ne (ne_of_none e hdx)]; exact e
  refine ⟨xa, Ca, dx, [], G, [], rfl, hC, upd_same, er.sub.none hxa, er.sub.trans (up1.trans del_sub), .nil, rfl, ?_⟩
  cases hF : IF [] with
  | stuck => rw [hF] at q; exact q.elim
  | exc e => rw [hF] at q; exact q.elim
  | ok ts =>
    rw [hF] at q
    dsimp only at q
    intro G' H' F m g' r nd fr
    refine ⟨rfl, q _ H' G' m.g ?_⟩
    have x1 : Ext G H G' H' := ⟨m.g, up1.trans m.h, m.s, fun b e nt => m.n b e (nt.mono up1)⟩
    have er1 := er.ext x1
    have hno : ∀ b ∈ xa :: F, H b = none ∧ G' b = none := fun b mb => by
      rcases List.mem_cons.mp mb with rfl | mb
      · exact ⟨hxa, g'⟩
      · refine ⟨?_, (fr b mb).1⟩
        cases z : H b with
        | none => rfl
        | some o =>
          have := up1 b o z
          rw [(fr b mb).2] at this; cases this
    refine er1.setS (x := .tre false (.ins c ts)) ⟨.ref xa, xa :: F, rfl, (fun z => by cases z), r, nd⟩ fun b oa => ?_
    obtain ⟨K', G'', u', F', e, r', mb⟩ := oa
    cases e
    rw [r'.uniq r] at mb
    obtain ⟨h0, g0⟩ := hno b mb
    exact ⟨g0, er.zh.none h0, fun j' y' v' _ e1 e2 => ((er.free h0).ext er x1) j' y' v' e1 e2⟩
end
end DL
namespace LW
open PySem L2 DL
def b_Book_setitem : DL.Env → Out :=
    (mPutF 0 ["Book"] "rows" (mV 1) (mV 2))
def F_Book_setitem : FnT := runT 3 "Book" b_Book_setitem
def b_Book_init : DL.Env → Out :=
    (mSetFldD 0 ["Book"] "rows" (mNewD true))
def I_Book_init : TFn := runTr 1 "Book" b_Book_init
def b_Book_drop : DL.Env → Out :=
    (mSeq (mIfS (mB (m2 (mV 1) (mFldK 0 ["Book"] "rows") opNi))
      (mRaise "NoRow" ["tops"] (mCons (mV 1) mNil))
      Out.nx)
    (mDelFK 0 ["Book"] "rows" (mV 1)))
def F_Book_drop : FnT := runT 2 "Book" b_Book_drop
def b_Book_fits : DL.Env → Out :=
    (mRet (m2 (mCall (mCons (mSl (mRev (mCall (mCons (mV 1) mNil) gList)) none (some (mCall (mCons (mV 0) mNil) gLen))) mNil) gTuple) (mCall (mCons (mV 0) mNil) gTuple) opEq))
def F_Book_fits : Fn := runB 2 b_Book_fits
def l1_Book_match : DL.Env → Out :=
    (mIfS (mAnd (mB (mFn F_Book_fits (mCons (mV 3) (mCons (mV 1) mNil)) 2)) (mOr (mB (m2 (mV 2) (mC .non) opIs)) (mB (m2 (mCall (mCons (mV 3) mNil) gLen) (mCall (mCons (mV 2) mNil) gLen) opGt))))
        (mSetF 2 (mV 3))
        Out.nx)
def b_Book_match : DL.Env → Out :=
    (mSeq (mSetF 2 (mC .non))
    (mSeq (mFor (mItems (mFld ["Book"] "rows" (mV 0))) (pName 3)
      l1_Book_match)
    (mRet (mV 2))))
def F_Book_match : Fn := runB 4 b_Book_match
end LW
namespace LW.K33
open PySem PySem.Spec PyProof.Rows L2 DL
abbrev clsL : List Str := ["Signs", "Book", "AwaitError", "LineError", "RowError", "SymbolError", "NoRow"]
structure Tx (P : Program) (K : PySem.W.Frag) (mg : Str → Option Value) : Prop where
  gk_NoRow : mg "NoRow" = some (.ref (He.ga K "NoRow"))
  k_Book : Cls K (He.ga K "Book")
  gk_Book : mg "Book" = some (.ref (He.ga K "Book"))
  m_Book_getitem : Meth K (He.ga K "Book") "__getitem__" (He.ma K (He.ga K "Book") "__getitem__")
  m_Book_iter : Meth K (He.ga K "Book") "__iter__" (He.ma K (He.ga K "Book") "__iter__")
  m_Book_setitem : Meth K (He.ga K "Book") "__setitem__" (He.ma K (He.ga K "Book") "__setitem__")
  g__law_draws : mg "_law_draws" = some (.ref (He.ga K "_law_draws"))
  mk_Book : Mk K (He.ga K "Book") (He.ma K (He.ga K "Book") "__init__")
  g__law_cell : mg "_law_cell" = some (.ref (He.ga K "_law_cell"))
  gk_SymbolError : mg "SymbolError" = some (.ref (He.ga K "SymbolError"))
  g_is_word : mg "is_word" = some (.ref (He.ga K "is_word"))
  g_is_sign : mg "is_sign" = some (.ref (He.ga K "is_sign"))
  gk_Signs : mg "Signs" = some (.ref (He.ga K "Signs"))
  k_Signs : Cls K (He.ga K "Signs")
  mk_Signs : Mk K (He.ga K "Signs") (He.ma K (He.ga K "Signs") "__init__")
  g__law_fits : mg "_law_fits" = some (.ref (He.ga K "_law_fits"))
  g__law_longest : mg "_law_longest" = some (.ref (He.ga K "_law_longest"))
  g__law_same : mg "_law_same" = some (.ref (He.ga K "_law_same"))
  m_Book_drop : Meth K (He.ga K "Book") "drop" (He.ma K (He.ga K "Book") "drop")
  m_Book_match : Meth K (He.ga K "Book") "match" (He.ma K (He.ga K "Book") "match")
  n_abs : mg "abs" = none
  n_all : mg "all" = none
  n_bool : mg "bool" = none
  n_int : mg "int" = none
  n_isinstance : mg "isinstance" = none
  n_iter : mg "iter" = none
  n_len : mg "len" = none
  n_list : mg "list" = none
  n_range : mg "range" = none
  n_set : mg "set" = none
  n_sorted : mg "sorted" = none
  n_str : mg "str" = none
  n_super : mg "super" = none
  n_tuple : mg "tuple" = none
  c_LOWER : ∃ t, mg "LOWER" = some (.str "abcdefghijklmnopqrstuvwxyz" t)
  c_UPPER : ∃ t, mg "UPPER" = some (.str "ABCDEFGHIJKLMNOPQRSTUVWXYZ" t)
  c_DIGITS : ∃ t, mg "DIGITS" = some (.str "0123456789" t)
  us_NoRow : ∃ fd, DX.FunS P K "NoRow.__init__" (defArgs (inClass (top 6) 0)) (defBody (inClass (top 6) 0)) (defScope (inClass (top 6) 0)) (He.ga K "NoRow") (He.ma K (He.ga K "NoRow") "__init__") fd
  tp : (P.main.scope.names.lookup ("super" : Str)).isSome = false
  sup_NoRow : supB K (He.ga K "NoRow") (He.ga K "NoRow") = true
  ini_NoRow : initB K (He.ga K "NoRow") (He.ga K "NoRow") = true
  u_Book_getitem : ∃ fd, FunD K "__getitem__" "Book.__getitem__" (defArgs (inClass (top 17) 7)) (defBody (inClass (top 17) 7)) (defScope (inClass (top 17) 7)) [] [] (He.ma K (He.ga K "Book") "__getitem__") fd
  u_Book_iter : ∃ fd, FunD K "__iter__" "Book.__iter__" (defArgs (inClass (top 17) 5)) (defBody (inClass (top 17) 5)) (defScope (inClass (top 17) 5)) [] [] (He.ma K (He.ga K "Book") "__iter__") fd
  u_Book_setitem : ∃ fd, FunD K "__setitem__" "Book.__setitem__" (defArgs (inClass (top 17) 8)) (defBody (inClass (top 17) 8)) (defScope (inClass (top 17) 8)) [] [] (He.ma K (He.ga K "Book") "__setitem__") fd
  u__law_draws : ∃ fd, FunD K "_law_draws" "_law_draws" (defArgs (top 20)) (defBody (top 20)) (defScope (top 20)) [] [] (He.ga K "_law_draws") fd
  u_Book_init : ∃ fd, FunD K "__init__" "Book.__init__" (defArgs (inClass (top 17) 1)) (defBody (inClass (top 17) 1)) (defScope (inClass (top 17) 1)) [] [] (He.ma K (He.ga K "Book") "__init__") fd
  u__law_cell : ∃ fd, FunD K "_law_cell" "_law_cell" (defArgs (top 19)) (defBody (top 19)) (defScope (top 19)) [] [] (He.ga K "_law_cell") fd
  us_SymbolError : ∃ fd, DX.FunS P K "SymbolError.__init__" (defArgs (inClass (top 5) 0)) (defBody (inClass (top 5) 0)) (defScope (inClass (top 5) 0)) (He.ga K "SymbolError") (He.ma K (He.ga K "SymbolError") "__init__") fd
  sup_SymbolError : supB K (He.ga K "SymbolError") (He.ga K "SymbolError") = true
  ini_SymbolError : initB K (He.ga K "SymbolError") (He.ga K "SymbolError") = true
  u_is_word : ∃ fd, FunD K "is_word" "is_word" (defArgs (top 11)) (defBody (top 11)) (defScope (top 11)) [] [] (He.ga K "is_word") fd
  u_is_sign : ∃ fd, FunD K "is_sign" "is_sign" (defArgs (top 12)) (defBody (top 12)) (defScope (top 12)) [] [] (He.ga K "is_sign") fd
  cv_Signs_END : CCon K mg "Signs" "END" (.str "$")
  u_Signs_init : ∃ fd, FunD K "__init__" "Signs.__init__" (defArgs (inClass (top 13) 1)) (defBody (inClass (top 13) 1)) (defScope (inClass (top 13) 1)) [] [] (He.ma K (He.ga K "Signs") "__init__") fd
  u__law_fits : ∃ fd, FunD K "_law_fits" "_law_fits" (defArgs (top 22)) (defBody (top 22)) (defScope (top 22)) [] [] (He.ga K "_law_fits") fd
  u__law_longest : ∃ fd, FunD K "_law_longest" "_law_longest" (defArgs (top 23)) (defBody (top 23)) (defScope (top 23)) [] [] (He.ga K "_law_longest") fd
  u__law_same : ∃ fd, FunD K "_law_same" "_law_same" (defArgs (top 21)) (defBody (top 21)) (defScope (top 21)) [] [] (He.ga K "_law_same") fd
  u_Book_drop : ∃ fd, FunD K "drop" "Book.drop" (defArgs (inClass (top 17) 10)) (defBody (inClass (top 17) 10)) (defScope (inClass (top 17) 10)) [] [] (He.ma K (He.ga K "Book") "drop") fd
  cr_Book : crB K (He.ga K "Book") = true
  sm_Book_fits : smB K (He.ga K "Book") "fits" = true
  u_Book_fits : ∃ fd, FunD K "fits" "Book.fits" (defArgs (inClass (top 17) 3)) (defBody (inClass (top 17) 3)) (defScope (inClass (top 17) 3)) [] [] (smA K (He.ga K "Book") "fits") fd
  u_Book_match : ∃ fd, FunD K "match" "Book.match" (defArgs (inClass (top 17) 11)) (defBody (inClass (top 17) 11)) (defScope (inClass (top 17) 11)) [] [] (He.ma K (He.ga K "Book") "match") fd
  fq_Book_setitem : fnSq K (He.ga K "Book") "__setitem__" = true
  na : noatTab K [("NoRow", "tops"), ("Book", "rows"), ("SymbolError", "symbol"), ("Signs", "words")] = true
section
variable {P : Program} {w : World} {K : PySem.W.Frag} {mg : Str → Option Value} {base : Heap}
theorem fo_rows (T : Tx P K mg) {C : CT} (h : C.cls = clsOf clsL K) : FldOk K C ["Book"] "rows" := fldOk_of h fun c hc => ⟨by
  simp only [List.mem_cons, List.not_mem_nil, or_false] at hc
  rcases hc with rfl
  exact T.k_Book, noatTab_ok T.na (by revert c; decide)⟩
theorem fo_words (T : Tx P K mg) {C : CT} (h : C.cls = clsOf clsL K) : FldOk K C ["Signs"] "words" := fldOk_of h fun c hc => ⟨by
  simp only [List.mem_cons, List.not_mem_nil, or_false] at hc
  rcases hc with rfl
  exact T.k_Signs, noatTab_ok T.na (by revert c; decide)⟩
theorem exi_NoRow (T : Tx P K mg) : ∃ fd, FnOk P w K mg base (L2.CX P w) 1 (He.ma K (He.ga K "NoRow") "__init__") fd ["self", "tops"] (spS K (He.ga K "NoRow") ["tops"]) ∧ Binds K fd ["self", "tops"] [] := by
  obtain ⟨fd, U⟩ := T.us_NoRow
  refine ⟨fd, ?_, FunS.bindsN U fun _ _ _ _ _ _ _ us hl => match us, hl with | [_, _], _ => rfl⟩
  exact (DX.fn_super (ps := ["self", "tops"]) (k := 0) U ⟨rfl, rfl, rfl, by decide +kernel, by decide +kernel, by decide +kernel, by decide +kernel⟩ rfl rfl rfl rfl T.n_super T.tp (fun _ _ _ _ _ _ _ => pe_str) (fun _ _ _ _ _ _ _ => (pss_one (ps_ost (pv 0) (pv 1)))) (fun _ _ _ => ⟨rfl, rfl, rfl, rfl⟩)).imp fun vs H Q E z => spT_one vs H Q E z
theorem ok_exc_NoRow (T : Tx P K mg) : ExG P w ⟨K, CC clsL K⟩ mg base 1 "NoRow" ["tops"] := by
  obtain ⟨fd, FO, hb⟩ := exi_NoRow (P := P) (w := w) (base := base) T
  obtain ⟨h1, h2⟩ := He.ba T.ini_NoRow
  exact exG_of T.gk_NoRow (show clsOf clsL K "NoRow" = some (He.ga K "NoRow") from clsOf_in (by decide)) (supB_ok T.sup_NoRow) (He.eqO_ok h1) (of_decide_eq_true h2) (noatL T.na (by decide)) FO hb
abbrev s_Book_getitem : Stmt := inClass (top 17) 7
abbrev N_Book_getitem : List Str := ["self", "tops"]
theorem sc_Book_getitem : FnScope N_Book_getitem ["self", "tops"] (defScope s_Book_getitem) := ⟨rfl, rfl, rfl, by decide +kernel, rfl, by decide +kernel, by decide +kernel⟩
def b_Book_getitem : DL.Env → Out :=
    (mSeq (mIfS (mB (m2 (mV 1) (mFld ["Book"] "rows" (mV 0)) opNi))
      (mRaise "NoRow" ["tops"] (mCons (mV 1) mNil))
      Out.nx)
    (mRet (m2 (mFld ["Book"] "rows" (mV 0)) (mV 1) opIxK)))
def F_Book_getitem : Fn := runB 2 b_Book_getitem
theorem ok_Book_getitem (T : Tx P K mg) (O_exc_NoRow : ExG P w ⟨K, CC clsL K⟩ mg base 1 "NoRow" ["tops"]) : MeG P w ⟨K, CC clsL K⟩ mg base 3 "Book" "__getitem__" 2 F_Book_getitem := by
  obtain ⟨fd, U⟩ := T.u_Book_getitem
  refine ⟨He.ga K "Book", _, fd, ["self", "tops"], (show clsOf clsL K "Book" = some (He.ga K "Book") from clsOf_in (by decide)), T.k_Book, T.m_Book_getitem, ?_, FunD.bindsN (ps := ["self", "tops"]) U (fun _ _ _ _ _ _ us hl => match us, hl with | [_, _], _ => rfl)⟩
  refine fn_dataD (K := ⟨K, CC clsL K⟩) (N := N_Book_getitem) (b := b_Book_getitem) U sc_Book_getitem (by decide) (fun cdv A outer s H E hr hp tk => ?_)
  have nd := sc_Book_getitem.nd
  have hu4 := hr.units
  have hu1 := room1 hr
  have hu5 := room5 hr
  exact (dss_cons (ds_if (dt_cmp (od_ni hu5) ne_ni (de_var 1) (de_fld (fo_rows T rfl) (de_var 0)))
      (dss_one (ds_raise O_exc_NoRow (hr.mono (by omega)) tk (da_cons (de_var 1) da_nil)))
      dss_nil)
    (dss_one (ds_ret (de_ixK hu1 (de_fld (fo_rows T rfl) (de_var 0)) (de_var 1)))))
theorem ok_it_Book (T : Tx P K mg) : OItD P w ⟨K, CC clsL K⟩ mg base 1 "Book" "rows" := by
  obtain ⟨fd, U⟩ := T.u_Book_iter
  exact oitD_ok (cs := ["Book"]) (show clsOf clsL K "Book" = some (He.ga K "Book") from clsOf_in (by decide)) T.m_Book_iter U ⟨rfl, rfl, rfl, by decide +kernel, rfl, by decide +kernel, by decide +kernel⟩ (FunD.bindsN (ps := ["self"]) U (fun _ _ _ _ _ _ us hl => match us, hl with | [_], _ => rfl)) rfl (by decide) T.n_iter (fun cdv A outer s H E => ⟨de_fld (fo_rows T rfl) (de_var 0), by rfl, by rfl⟩)
abbrev s_Book_setitem : Stmt := inClass (top 17) 8
abbrev N_Book_setitem : List Str := ["self", "tops", "row"]
theorem sc_Book_setitem : FnScope N_Book_setitem ["self", "tops", "row"] (defScope s_Book_setitem) := ⟨rfl, rfl, rfl, by decide +kernel, rfl, by decide +kernel, by decide +kernel⟩
theorem ok_Book_setitem (T : Tx P K mg) : MeT P w ⟨K, CC clsL K⟩ mg base 1 "Book" "__setitem__" 2 F_Book_setitem := by
  obtain ⟨fd, U⟩ := T.u_Book_setitem
  refine ⟨He.ga K "Book", _, fd, ["self", "tops", "row"], (show clsOf clsL K "Book" = some (He.ga K "Book") from clsOf_in (by decide)), T.k_Book, T.m_Book_setitem, ?_, FunD.bindsN (ps := ["self", "tops", "row"]) U (fun _ _ _ _ _ _ us hl => match us, hl with | [_, _, _], _ => rfl)⟩
  refine fn_methT (C := CC clsL K) (N := N_Book_setitem) (b := b_Book_setitem) U sc_Book_setitem rfl (fun a cdv A outer s H E hr hp tk => ?_)
  have nd := sc_Book_setitem.nd
  have hu4 := hr.units
  have hu1 := room1 hr
  have hu5 := room5 hr
  exact (dss_one (ds_putF 0 hu1 (fo_rows T rfl) (de_var 1) (de_var 2)))
abbrev s__law_draws : Stmt := top 20
abbrev N__law_draws : List Str := ["_law_cell_here", "_law_count", "_law_row", "_law_left", "_law_k", "_law_low"]
theorem sc__law_draws : FnScope N__law_draws ["_law_cell_here", "_law_count"] (defScope s__law_draws) := ⟨rfl, rfl, rfl, by decide +kernel, rfl, by decide +kernel, by decide +kernel⟩
theorem ok__law_draws (T : Tx P K mg) : FnG P w ⟨K, CC clsL K⟩ mg base 1 "_law_draws" ["_law_cell_here", "_law_count"] F__law_draws := by
  refine fn_global (N := N__law_draws) (b := b__law_draws) T.u__law_draws T.g__law_draws sc__law_draws (by decide) (fun _ _ _ _ _ _ us hl => match us, hl with | [_, _], _ => rfl) (fun cdv A outer s H E hr hp tk => ?_)
  have nd := sc__law_draws.nd
  have hu4 := hr.units
  have hu1 := room1 hr
  have hu5 := room5 hr
  exact (dss_cons (ds_setO (i := 2) (de_lst da_nil) nd)
    (dss_cons (ds_setF (i := 3) (de_var 0) nd)
    (dss_cons (ds_for hp (di_range1 T.n_range (da_cons (de_var 1) da_nil)) (dg_name nd (i := 4))
      (dss_one (ds_if (DW.dt (dw_and (dt_cmp od_ge ne_opO (de_var 0) (de_op od_pow ne_opI de_int de_int)) (dw_and1 (dt_cmp od_gt ne_opO (de_var 3) de_int))))
        (dss_cons (ds_app 2 (de_op od_mod ne_opI (de_callTy cd_int ne_g1 T.n_int (by decide +kernel) (da_cons (de_var 3) da_nil)) de_int))
        (dss_one (ds_setF (i := 3) (de_op od_div ne_opI (de_var 3) de_int) nd)))
        (dss_cons (ds_setF (i := 5) (de_op od_mod ne_opI (de_callTy cd_int ne_g1 T.n_int (by decide +kernel) (da_cons (de_op od_mul ne_opI (de_op od_mul ne_opI (de_op od_add ne_add (de_var 0) de_int) (de_op od_add ne_add (de_var 4) de_int)) de_int) da_nil)) de_int) nd)
        (dss_one (ds_app 2 (de_op od_div ne_opI (de_op od_mod ne_opI (de_callTy cd_int ne_g1 T.n_int (by decide +kernel) (da_cons (de_op od_add ne_add (de_op od_add ne_add (de_op od_mul ne_opI (de_var 5) (de_var 5)) (de_var 0)) (de_op od_mul ne_opI de_int (de_var 4))) da_nil)) de_int) de_int)))))))
    (dss_one (ds_ret (de_var 2))))))
abbrev s_Book_init : Stmt := inClass (top 17) 1
abbrev N_Book_init : List Str := ["self"]
theorem sc_Book_init : FnScope N_Book_init ["self"] (defScope s_Book_init) := ⟨rfl, rfl, rfl, by decide +kernel, rfl, by decide +kernel, by decide +kernel⟩
theorem ok_Book_init (T : Tx P K mg) : InTr P w ⟨K, CC clsL K⟩ mg base 1 "Book" 0 I_Book_init := by
  obtain ⟨fd, U⟩ := T.u_Book_init
  refine ⟨He.ga K "Book", _, fd, ["self"], T.gk_Book, (show clsOf clsL K "Book" = some (He.ga K "Book") from clsOf_in (by decide)), T.mk_Book, ?_, FunD.bindsN (ps := ["self"]) U (fun _ _ _ _ _ _ us hl => match us, hl with | [_], _ => rfl)⟩
  refine fn_initT (C := CC clsL K) (N := N_Book_init) (b := b_Book_init) U sc_Book_init rfl (fun a cdv A outer s H E hr hp tk => ?_)
  have nd := sc_Book_init.nd
  have hu4 := hr.units
  have hu1 := room1 hr
  have hu5 := room5 hr
  exact (dss_one (ds_setFldD 0 (fo_rows T rfl) de_newT))
abbrev s__law_cell : Stmt := top 19
abbrev N__law_cell : List Str := ["_law_script", "_law_at"]
theorem sc__law_cell : FnScope N__law_cell ["_law_script", "_law_at"] (defScope s__law_cell) := ⟨rfl, rfl, rfl, by decide +kernel, rfl, by decide +kernel, by decide +kernel⟩
theorem ok__law_cell (T : Tx P K mg) : FnG P w ⟨K, CC clsL K⟩ mg base 1 "_law_cell" ["_law_script", "_law_at"] F__law_cell := by
  refine fn_global (N := N__law_cell) (b := b__law_cell) T.u__law_cell T.g__law_cell sc__law_cell (by decide) (fun _ _ _ _ _ _ us hl => match us, hl with | [_, _], _ => rfl) (fun cdv A outer s H E hr hp tk => ?_)
  have nd := sc__law_cell.nd
  have hu4 := hr.units
  have hu1 := room1 hr
  have hu5 := room5 hr
  exact (dss_cons (ds_if (dt_cmp (od_lt hu4) ne_opO (de_var 1) (de_callB cd_len ne_g1 T.n_len (by decide +kernel) (da_cons (de_var 0) da_nil)))
      (dss_one (ds_ret (de_callB cd_abs ne_g1 T.n_abs (by decide +kernel) (da_cons (de_ix (de_var 0) (de_var 1)) da_nil))))
      dss_nil)
    (dss_one (ds_ret de_int)))
theorem exi_SymbolError (T : Tx P K mg) : ∃ fd, FnOk P w K mg base (L2.CX P w) 1 (He.ma K (He.ga K "SymbolError") "__init__") fd ["self", "symbol"] (spS K (He.ga K "SymbolError") ["symbol"]) ∧ Binds K fd ["self", "symbol"] [] := by
  obtain ⟨fd, U⟩ := T.us_SymbolError
  refine ⟨fd, ?_, FunS.bindsN U fun _ _ _ _ _ _ _ us hl => match us, hl with | [_, _], _ => rfl⟩
  exact (DX.fn_super (ps := ["self", "symbol"]) (k := 0) U ⟨rfl, rfl, rfl, by decide +kernel, by decide +kernel, by decide +kernel, by decide +kernel⟩ rfl rfl rfl rfl T.n_super T.tp (fun _ _ _ _ _ _ _ => pe_str) (fun _ _ _ _ _ _ _ => (pss_one (ps_ost (pv 0) (pv 1)))) (fun _ _ _ => ⟨rfl, rfl, rfl, rfl⟩)).imp fun vs H Q E z => spT_one vs H Q E z
theorem ok_exc_SymbolError (T : Tx P K mg) : ExG P w ⟨K, CC clsL K⟩ mg base 1 "SymbolError" ["symbol"] := by
  obtain ⟨fd, FO, hb⟩ := exi_SymbolError (P := P) (w := w) (base := base) T
  obtain ⟨h1, h2⟩ := He.ba T.ini_SymbolError
  exact exG_of T.gk_SymbolError (show clsOf clsL K "SymbolError" = some (He.ga K "SymbolError") from clsOf_in (by decide)) (supB_ok T.sup_SymbolError) (He.eqO_ok h1) (of_decide_eq_true h2) (noatL T.na (by decide)) FO hb
abbrev s_is_word : Stmt := top 11
abbrev N_is_word : List Str := ["word", "char"]
theorem sc_is_word : FnScope N_is_word ["word"] (defScope s_is_word) := ⟨rfl, rfl, rfl, by decide +kernel, rfl, by decide +kernel, by decide +kernel⟩
theorem ok_is_word (T : Tx P K mg) : FnG P w ⟨K, CC clsL K⟩ mg base 1 "is_word" ["word"] F_is_word := by
  refine fn_global (N := N_is_word) (b := b_is_word) T.u_is_word T.g_is_word sc_is_word (by decide) (fun _ _ _ _ _ _ us hl => match us, hl with | [_], _ => rfl) (fun cdv A outer s H E hr hp tk => ?_)
  have nd := sc_is_word.nd
  have hu4 := hr.units
  have hu1 := room1 hr
  have hu5 := room5 hr
  exact (dss_one (ds_ret (de_and (de_chain od_le ne_opO od_le ne_opO de_int (de_callB cd_len ne_g1 T.n_len (by decide +kernel) (da_cons (de_var 0) da_nil)) de_int (fun _ _ _ _ _ h1 h2 h3 h4 h5 => pe_chain h1 h2 h3 h4 h5)) (de_one (de_callB (cd_all rfl) ne_g1 T.n_all (by decide +kernel) (da_cons (de_lc nd (di_seq (de_var 0)) (blkOk_by (own := [("char", 1)]) (N := N_is_word) (sc := defScope s_is_word) (by decide +kernel)) rfl (by decide) (fun _ _ _ _ _ => (dg_name nd (i := 1))) (fun _ _ _ _ _ => dts_nil) (fun _ _ _ _ _ => (de_cmp (od_in hu5) ne_in (de_var 1) (de_op od_add ne_add (de_op od_add ne_add (de_gS T.c_LOWER) (de_gS T.c_UPPER)) (de_gS T.c_DIGITS))))) da_nil))))))
abbrev s_is_sign : Stmt := top 12
abbrev N_is_sign : List Str := ["word"]
theorem sc_is_sign : FnScope N_is_sign ["word"] (defScope s_is_sign) := ⟨rfl, rfl, rfl, by decide +kernel, rfl, by decide +kernel, by decide +kernel⟩
theorem ok_is_sign (T : Tx P K mg) (O_is_word : FnG P w ⟨K, CC clsL K⟩ mg base 1 "is_word" ["word"] F_is_word) : FnG P w ⟨K, CC clsL K⟩ mg base 2 "is_sign" ["word"] F_is_sign := by
  refine fn_global (N := N_is_sign) (b := b_is_sign) T.u_is_sign T.g_is_sign sc_is_sign (by decide) (fun _ _ _ _ _ _ us hl => match us, hl with | [_], _ => rfl) (fun cdv A outer s H E hr hp tk => ?_)
  have nd := sc_is_sign.nd
  have hu4 := hr.units
  have hu1 := room1 hr
  have hu5 := room5 hr
  exact (dss_one (ds_ret (de_and (de_call O_is_word (hr.mono (by omega)) tk (da_cons (de_var 0) da_nil)) (de_one (de_cmp (od_in hu5) ne_in (de_ix (de_var 0) de_int) (de_gS T.c_LOWER))))))
abbrev s_Signs_init : Stmt := inClass (top 13) 1
abbrev N_Signs_init : List Str := ["self", "words", "word"]
theorem sc_Signs_init : FnScope N_Signs_init ["self", "words"] (defScope s_Signs_init) := ⟨rfl, rfl, rfl, by decide +kernel, rfl, by decide +kernel, by decide +kernel⟩
theorem ok_Signs_init (T : Tx P K mg) (O_is_sign : FnG P w ⟨K, CC clsL K⟩ mg base 2 "is_sign" ["word"] F_is_sign) (O_exc_SymbolError : ExG P w ⟨K, CC clsL K⟩ mg base 1 "SymbolError" ["symbol"]) : InG P w ⟨K, CC clsL K⟩ mg base 3 "Signs" 1 I_Signs_init := by
  obtain ⟨fd, U⟩ := T.u_Signs_init
  refine ⟨He.ga K "Signs", _, fd, ["self", "words"], T.gk_Signs, (show clsOf clsL K "Signs" = some (He.ga K "Signs") from clsOf_in (by decide)), T.mk_Signs, ?_, FunD.bindsN (ps := ["self", "words"]) U (fun _ _ _ _ _ _ us hl => match us, hl with | [_, _], _ => rfl)⟩
  refine fn_init (C := CC clsL K) (N := N_Signs_init) (b := b_Signs_init) U sc_Signs_init rfl (fun a cdv A outer s H E hr hp tk => ?_)
  have nd := sc_Signs_init.nd
  have hu4 := hr.units
  have hu1 := room1 hr
  have hu5 := room5 hr
  exact (dss_cons (ds_for hp (di_seq (de_var 1)) (dg_name nd (i := 2))
      (dss_one (ds_if (DW.dt (dw_and (dt_cmp (od_ne hu4) ne_ne (de_var 2) (de_cval T.cv_Signs_END)) (dw_and1 (dt_not (dt_val (de_call (O_is_sign.cx (C := CC clsL K) rfl rfl) (hr.mono (by omega)) tk (da_cons (de_var 2) da_nil)))))))
        (dss_one (ds_raise (O_exc_SymbolError.cx (C := CC clsL K) rfl) (hr.mono (by omega)) tk (da_cons (de_var 2) da_nil)))
        dss_nil)))
    (dss_one (ds_setFld 0 (fo_words T rfl) (de_callTy cd_tuple ne_gTuple T.n_tuple (by decide +kernel) (da_cons (de_sortSet (de_var 1) rfl T.n_sorted T.n_set) da_nil)))))
abbrev s__law_fits : Stmt := top 22
abbrev N__law_fits : List Str := ["_law_tops", "_law_pile", "_law_k"]
theorem sc__law_fits : FnScope N__law_fits ["_law_tops", "_law_pile"] (defScope s__law_fits) := ⟨rfl, rfl, rfl, by decide +kernel, rfl, by decide +kernel, by decide +kernel⟩
def e1__law_fits : DL.Env → Rz EV :=
    (m2 (m2 (mV 0) (mV 2) opIx) (m2 (mV 1) (m2 (m2 (mCall (mCons (mV 1) mNil) gLen) (mC (.int 1)) opSub) (mV 2) opSub) opIx) opEq)
def b__law_fits : DL.Env → Out :=
    (mSeq (mIfS (mB (m2 (mCall (mCons (mV 0) mNil) gLen) (mCall (mCons (mV 1) mNil) gLen) opGt))
      (mRet (mC (.bl false)))
      Out.nx)
    (mRet (mCall (mCons (mLc (mRng1 (mCons (mCall (mCons (mV 0) mNil) gLen) mNil)) (pName 2) mYes e1__law_fits [2]) mNil) gAll)))
def F__law_fits : Fn := runB 3 b__law_fits
theorem ok__law_fits (T : Tx P K mg) : FnG P w ⟨K, CC clsL K⟩ mg base 1 "_law_fits" ["_law_tops", "_law_pile"] F__law_fits := by
  refine fn_global (N := N__law_fits) (b := b__law_fits) T.u__law_fits T.g__law_fits sc__law_fits (by decide) (fun _ _ _ _ _ _ us hl => match us, hl with | [_, _], _ => rfl) (fun cdv A outer s H E hr hp tk => ?_)
  have nd := sc__law_fits.nd
  have hu4 := hr.units
  have hu1 := room1 hr
  have hu5 := room5 hr
  exact (dss_cons (ds_if (dt_cmp od_gt ne_opO (de_callB cd_len ne_g1 T.n_len (by decide +kernel) (da_cons (de_var 0) da_nil)) (de_callB cd_len ne_g1 T.n_len (by decide +kernel) (da_cons (de_var 1) da_nil)))
      (dss_one (ds_ret de_bl))
      dss_nil)
    (dss_one (ds_ret (de_callB (cd_all rfl) ne_g1 T.n_all (by decide +kernel) (da_cons (de_lc nd (di_range1 T.n_range (da_cons (de_callB cd_len ne_g1 T.n_len (by decide +kernel) (da_cons (de_var 0) da_nil)) da_nil)) (blkOk_by (own := [("_law_k", 2)]) (N := N__law_fits) (sc := defScope s__law_fits) (by decide +kernel)) rfl (by decide) (fun _ _ _ _ _ => (dg_name nd (i := 2))) (fun _ _ _ _ _ => dts_nil) (fun _ _ _ _ _ => (de_cmp (od_eq hu4) ne_eq (de_ix (de_var 0) (de_var 2)) (de_ix (de_var 1) (de_op od_sub ne_opI (de_op od_sub ne_opI (de_callB cd_len ne_g1 T.n_len (by decide +kernel) (da_cons (de_var 1) da_nil)) de_int) (de_var 2)))))) da_nil)))))
abbrev s__law_longest : Stmt := top 23
abbrev N__law_longest : List Str := ["_law_rows", "_law_pile", "_law_best", "_law_tops"]
theorem sc__law_longest : FnScope N__law_longest ["_law_rows", "_law_pile"] (defScope s__law_longest) := ⟨rfl, rfl, rfl, by decide +kernel, rfl, by decide +kernel, by decide +kernel⟩
def l1__law_longest : DL.Env → Out :=
    (mIfS (mAnd (mB (mFn F__law_fits (mCons (mV 3) (mCons (mV 1) mNil)) 2)) (mOr (mB (m2 (mV 2) (mC .non) opIs)) (mB (m2 (mCall (mCons (mV 3) mNil) gLen) (mCall (mCons (mV 2) mNil) gLen) opGt))))
        (mSetF 2 (mV 3))
        Out.nx)
def b__law_longest : DL.Env → Out :=
    (mSeq (mSetF 2 (mC .non))
    (mSeq (mFor (mItems (mV 0)) (pName 3)
      l1__law_longest)
    (mRet (mV 2))))
def F__law_longest : Fn := runB 4 b__law_longest
theorem ok__law_longest (T : Tx P K mg) (O__law_fits : FnG P w ⟨K, CC clsL K⟩ mg base 1 "_law_fits" ["_law_tops", "_law_pile"] F__law_fits) : FnG P w ⟨K, CC clsL K⟩ mg base 2 "_law_longest" ["_law_rows", "_law_pile"] F__law_longest := by
  refine fn_global (N := N__law_longest) (b := b__law_longest) T.u__law_longest T.g__law_longest sc__law_longest (by decide) (fun _ _ _ _ _ _ us hl => match us, hl with | [_, _], _ => rfl) (fun cdv A outer s H E hr hp tk => ?_)
  have nd := sc__law_longest.nd
  have hu4 := hr.units
  have hu1 := room1 hr
  have hu5 := room5 hr
  exact (dss_cons (ds_setF (i := 2) de_non nd)
    (dss_cons (ds_for hp (di_seq (de_var 0)) (dg_name nd (i := 3))
      (dss_one (ds_if (DW.dt (dw_and (dt_val (de_call O__law_fits (hr.mono (by omega)) tk (da_cons (de_var 3) (da_cons (de_var 1) da_nil)))) (dw_and1 (DW.dt (dw_or (dt_cmp od_is ne_is (de_var 2) de_non) (dw_or1 (dt_cmp od_gt ne_opO (de_callB cd_len ne_g1 T.n_len (by decide +kernel) (da_cons (de_var 3) da_nil)) (de_callB cd_len ne_g1 T.n_len (by decide +kernel) (da_cons (de_var 2) da_nil)))))))))
        (dss_one (ds_setF (i := 2) (de_var 3) nd))
        dss_nil)))
    (dss_one (ds_ret (de_var 2)))))
abbrev s__law_same : Stmt := top 21
abbrev N__law_same : List Str := ["_law_told", "_law_due", "_law_k"]
theorem sc__law_same : FnScope N__law_same ["_law_told", "_law_due"] (defScope s__law_same) := ⟨rfl, rfl, rfl, by decide +kernel, rfl, by decide +kernel, by decide +kernel⟩
theorem okr__law_same (T : Tx P K mg) : ∀ n : Nat, FnG P w ⟨K, CC clsL K⟩ mg base (2 + n) "_law_same" ["_law_told", "_law_due"] (F__law_same n)
  | 0 => fn_global (N := N__law_same) (b := fun _ => .stuck) T.u__law_same T.g__law_same sc__law_same (by decide) (fun _ _ _ _ _ _ us hl => match us, hl with | [_, _], _ => rfl) (fun _ _ _ _ _ _ _ _ _ => dss_stuck)
  | n + 1 => by
    have O__law_same := okr__law_same T n
    refine fn_global (k := 2 + n) (N := N__law_same) (b := b__law_same (F__law_same n)) T.u__law_same T.g__law_same sc__law_same (by decide) (fun _ _ _ _ _ _ us hl => match us, hl with | [_, _], _ => rfl) (fun cdv A outer s H E hr hp tk => ?_)
    have nd := sc__law_same.nd
    have hu4 := hr.units
    have hu1 := room1 hr
    have hu5 := room5 hr
    exact (dss_cons (ds_if (dt_cmp od_is ne_is (de_var 1) de_non)
      (dss_one (ds_ret (de_cmp od_is ne_is (de_var 0) de_non)))
      dss_nil)
    (dss_cons (ds_if (dt_val (de_callB cd_isi ne_gIsi T.n_isinstance (by decide +kernel) (da_cons (de_var 1) (da_cons (de_bltn T.n_bool (by decide +kernel)) da_nil))))
      (dss_one (ds_ret (de_and (de_callB cd_isi ne_gIsi T.n_isinstance (by decide +kernel) (da_cons (de_var 0) (da_cons (de_bltn T.n_bool (by decide +kernel)) da_nil))) (de_one (de_cmp (od_eq hu4) ne_eq (de_var 0) (de_var 1))))))
      dss_nil)
    (dss_cons (ds_if (dt_val (de_callB cd_isi ne_gIsi T.n_isinstance (by decide +kernel) (da_cons (de_var 1) (da_cons (de_bltn T.n_int (by decide +kernel)) da_nil))))
      (dss_one (ds_ret (de_and (de_callB cd_isi ne_gIsi T.n_isinstance (by decide +kernel) (da_cons (de_var 0) (da_cons (de_bltn T.n_int (by decide +kernel)) da_nil))) (de_and (de_not (de_callB cd_isi ne_gIsi T.n_isinstance (by decide +kernel) (da_cons (de_var 0) (da_cons (de_bltn T.n_bool (by decide +kernel)) da_nil)))) (de_one (de_cmp (od_eq hu4) ne_eq (de_var 0) (de_var 1)))))))
      dss_nil)
    (dss_cons (ds_if (dt_val (de_callB cd_isi ne_gIsi T.n_isinstance (by decide +kernel) (da_cons (de_var 1) (da_cons (de_bltn T.n_str (by decide +kernel)) da_nil))))
      (dss_one (ds_ret (de_and (de_callB cd_isi ne_gIsi T.n_isinstance (by decide +kernel) (da_cons (de_var 0) (da_cons (de_bltn T.n_str (by decide +kernel)) da_nil))) (de_one (de_cmp (od_eq hu4) ne_eq (de_var 0) (de_var 1))))))
      dss_nil)
    (dss_cons (ds_if (DW.dt (dw_or (DW.dt (dw_and (dt_val (de_callB cd_isi ne_gIsi T.n_isinstance (by decide +kernel) (da_cons (de_var 1) (da_cons (de_bltn T.n_tuple (by decide +kernel)) da_nil)))) (dw_and1 (dt_not (dt_val (de_callB cd_isi ne_gIsi T.n_isinstance (by decide +kernel) (da_cons (de_var 0) (da_cons (de_bltn T.n_tuple (by decide +kernel)) da_nil)))))))) (dw_or1 (DW.dt (dw_and (dt_val (de_callB cd_isi ne_gIsi T.n_isinstance (by decide +kernel) (da_cons (de_var 1) (da_cons (de_bltn T.n_list (by decide +kernel)) da_nil)))) (dw_and1 (dt_not (dt_val (de_callB cd_isi ne_gIsi T.n_isinstance (by decide +kernel) (da_cons (de_var 0) (da_cons (de_bltn T.n_list (by decide +kernel)) da_nil)))))))))))
      (dss_one (ds_ret de_bl))
      dss_nil)
    (dss_one (ds_ret (de_and (de_cmp (od_eq hu4) ne_eq (de_callB cd_len ne_g1 T.n_len (by decide +kernel) (da_cons (de_var 0) da_nil)) (de_callB cd_len ne_g1 T.n_len (by decide +kernel) (da_cons (de_var 1) da_nil))) (de_one (de_callB (cd_all rfl) ne_g1 T.n_all (by decide +kernel) (da_cons (de_lc nd (di_range1 T.n_range (da_cons (de_callB cd_len ne_g1 T.n_len (by decide +kernel) (da_cons (de_var 1) da_nil)) da_nil)) (blkOk_by (own := [("_law_k", 2)]) (N := N__law_same) (sc := defScope s__law_same) (by decide +kernel)) rfl (by decide) (fun _ _ _ _ _ => (dg_name nd (i := 2))) (fun _ _ _ _ _ => dts_nil) (fun _ _ _ _ _ => (de_call O__law_same (hr.mono (by omega)) takes0 (da_cons (de_ix (de_var 0) (de_var 2)) (da_cons (de_ix (de_var 1) (de_var 2)) da_nil))))) da_nil)))))))))))
theorem ok__law_same (T : Tx P K mg) : FnG P w ⟨K, CC clsL K⟩ mg base 10 "_law_same" ["_law_told", "_law_due"] (F__law_same 8) := okr__law_same T 8
abbrev s_Book_drop : Stmt := inClass (top 17) 10
abbrev N_Book_drop : List Str := ["self", "tops"]
theorem sc_Book_drop : FnScope N_Book_drop ["self", "tops"] (defScope s_Book_drop) := ⟨rfl, rfl, rfl, by decide +kernel, rfl, by decide +kernel, by decide +kernel⟩
theorem ok_Book_drop (T : Tx P K mg) (O_exc_NoRow : ExG P w ⟨K, CC clsL K⟩ mg base 1 "NoRow" ["tops"]) : MeT P w ⟨K, CC clsL K⟩ mg base 3 "Book" "drop" 1 F_Book_drop := by
  obtain ⟨fd, U⟩ := T.u_Book_drop
  refine ⟨He.ga K "Book", _, fd, ["self", "tops"], (show clsOf clsL K "Book" = some (He.ga K "Book") from clsOf_in (by decide)), T.k_Book, T.m_Book_drop, ?_, FunD.bindsN (ps := ["self", "tops"]) U (fun _ _ _ _ _ _ us hl => match us, hl with | [_, _], _ => rfl)⟩
  refine fn_methT (C := CC clsL K) (N := N_Book_drop) (b := b_Book_drop) U sc_Book_drop rfl (fun a cdv A outer s H E hr hp tk => ?_)
  have nd := sc_Book_drop.nd
  have hu4 := hr.units
  have hu1 := room1 hr
  have hu5 := room5 hr
  exact (dss_cons (ds_if (dt_cmp (od_ni hu5) ne_ni (de_var 1) (de_fldK 0 (fo_rows T rfl)))
      (dss_one (ds_raise (O_exc_NoRow.cx (C := CC clsL K) rfl) (hr.mono (by omega)) tk (da_cons (de_var 1) da_nil)))
      dss_nil)
    (dss_one (ds_delFK 0 hu1 (fo_rows T rfl) (de_var 1))))
abbrev s_Book_fits : Stmt := inClass (top 17) 3
abbrev N_Book_fits : List Str := ["tops", "pile"]
theorem sc_Book_fits : FnScope N_Book_fits ["tops", "pile"] (defScope s_Book_fits) := ⟨rfl, rfl, rfl, by decide +kernel, rfl, by decide +kernel, by decide +kernel⟩
theorem ok_Book_fits (T : Tx P K mg) : SmG P w ⟨K, CC clsL K⟩ mg base 1 "Book" "fits" 2 F_Book_fits := by
  obtain ⟨fd, U⟩ := T.u_Book_fits
  refine ⟨He.ga K "Book", fd, ["tops", "pile"], T.gk_Book, T.cr_Book, T.sm_Book_fits, ?_, FunD.bindsN (ps := ["tops", "pile"]) U (fun _ _ _ _ _ _ us hl => match us, hl with | [_, _], _ => rfl)⟩
  refine fn_dataD (K := ⟨K, CC clsL K⟩) (N := N_Book_fits) (b := b_Book_fits) U sc_Book_fits (by decide) (fun cdv A outer s H E hr hp tk => ?_)
  have nd := sc_Book_fits.nd
  have hu4 := hr.units
  have hu1 := room1 hr
  have hu5 := room5 hr
  exact (dss_one (ds_ret (de_cmp (od_eq hu4) ne_eq (de_callTy cd_tuple ne_gTuple T.n_tuple (by decide +kernel) (da_cons (de_sl (de_rev (de_callTy cd_list ne_gList T.n_list (by decide +kernel) (da_cons (de_var 1) da_nil))) do_none (do_some (de_callB cd_len ne_g1 T.n_len (by decide +kernel) (da_cons (de_var 0) da_nil)))) da_nil)) (de_callTy cd_tuple ne_gTuple T.n_tuple (by decide +kernel) (da_cons (de_var 0) da_nil)))))
abbrev s_Book_match : Stmt := inClass (top 17) 11
abbrev N_Book_match : List Str := ["self", "pile", "found", "tops"]
theorem sc_Book_match : FnScope N_Book_match ["self", "pile"] (defScope s_Book_match) := ⟨rfl, rfl, rfl, by decide +kernel, rfl, by decide +kernel, by decide +kernel⟩
theorem ok_Book_match (T : Tx P K mg) (O_Book_fits : SmG P w ⟨K, CC clsL K⟩ mg base 1 "Book" "fits" 2 F_Book_fits) : MeG P w ⟨K, CC clsL K⟩ mg base 2 "Book" "match" 2 F_Book_match := by
  obtain ⟨fd, U⟩ := T.u_Book_match
  refine ⟨He.ga K "Book", _, fd, ["self", "pile"], (show clsOf clsL K "Book" = some (He.ga K "Book") from clsOf_in (by decide)), T.k_Book, T.m_Book_match, ?_, FunD.bindsN (ps := ["self", "pile"]) U (fun _ _ _ _ _ _ us hl => match us, hl with | [_, _], _ => rfl)⟩
  refine fn_dataD (K := ⟨K, CC clsL K⟩) (N := N_Book_match) (b := b_Book_match) U sc_Book_match (by decide) (fun cdv A outer s H E hr hp tk => ?_)
  have nd := sc_Book_match.nd
  have hu4 := hr.units
  have hu1 := room1 hr
  have hu5 := room5 hr
  exact (dss_cons (ds_setF (i := 2) de_non nd)
    (dss_cons (ds_for hp (di_seq (de_fld (fo_rows T rfl) (de_var 0))) (dg_name nd (i := 3))
      (dss_one (ds_if (DW.dt (dw_and (dt_val (de_sm O_Book_fits (hr.mono (by omega)) tk (da_cons (de_var 3) (da_cons (de_var 1) da_nil)))) (dw_and1 (DW.dt (dw_or (dt_cmp od_is ne_is (de_var 2) de_non) (dw_or1 (dt_cmp od_gt ne_opO (de_callB cd_len ne_g1 T.n_len (by decide +kernel) (da_cons (de_var 3) da_nil)) (de_callB cd_len ne_g1 T.n_len (by decide +kernel) (da_cons (de_var 2) da_nil)))))))))
        (dss_one (ds_setF (i := 2) (de_var 3) nd))
        dss_nil)))
    (dss_one (ds_ret (de_var 2)))))
abbrev s_law : Stmt := top 24
abbrev N_law : List Str := ["_law_script", "_law_draws_here", "_law_pile", "_law_down", "_law_book", "_law_rows", "_law_k", "_law_tops", "_law_turn", "_law_best", "_law_passed", "_law_x"]
theorem sc_law : FnScope N_law ["_law_script"] (defScope s_law) := ⟨rfl, rfl, rfl, by decide +kernel, rfl, by decide +kernel, by decide +kernel⟩
def e1_law : DL.Env → Rz EV :=
    (m2 (mC (.int 1)) (m2 (mCall (mCons (m2 (mV 1) (m2 (mC (.int 2)) (mV 6) opAdd) opIx) mNil) gInt) (mC (.int 4)) opMod) opAdd)
def l1_law : DL.Env → Out :=
    (mSeq (mSetO 7 (mSl (mV 3) none (some (m2 (mC (.int 1)) (m2 (mCall (mCons (m2 (mV 1) (m2 (mC (.int 16)) (m2 (mC (.int 3)) (mV 6) opMul) opAdd) opIx) mNil) gInt) (mC (.int 12)) opMod) opAdd))))
      (mSeq (mIfS (mB (m2 (m2 (mCall (mCons (m2 (mV 1) (m2 (mC (.int 17)) (m2 (mC (.int 3)) (mV 6) opMul) opAdd) opIx) mNil) gInt) (mC (.int 3)) opMod) (mC (.int 0)) opEq))
        (mSetI 7 (m2 (mCall (mCons (m2 (mV 1) (m2 (mC (.int 18)) (m2 (mC (.int 3)) (mV 6) opMul) opAdd) opIx) mNil) gInt) (mCall (mCons (mV 7) mNil) gLen) opMod) (mC (.int 7)))
        Out.nx)
      (mSeq (mSetIO "Book" F_Book_setitem 4 (mCall (mCons (mV 7) mNil) gTuple) (mTup (mCons (mMake "Signs" 1 I_Signs_init (mCons (mLst (mCons (mC (.str "a")) mNil)) mNil)) (mCons (mC (.str "x")) mNil))))
      (mFrz 7 (mIfS (mB (m2 (mCall (mCons (mV 7) mNil) gTuple) (mV 5) opNi))
        (mFrz 7 (mApp 5 (mCall (mCons (mV 7) mNil) gTuple)))
        Out.nx)))))
def l2_law : DL.Env → Out :=
    (mIfS (mNot (mB (mFn (F__law_same 8) (mCons (mFn F_Book_fits (mCons (mV 7) (mCons (mV 10) mNil)) 2) (mCons (mFn F__law_fits (mCons (mV 7) (mCons (mV 2) mNil)) 2) mNil)) 2)))
          (mRet (mC (.bl false)))
          Out.nx)
def e2_law : DL.Env → Rz EV :=
    (mV 11)
def t1_law : DL.Env → Rz Bool :=
    (mB (m2 (mV 7) (mV 9) opNe))
def e3_law : DL.Env → Rz EV :=
    (mV 7)
def l3_law : DL.Env → Out :=
    (mSeq (mSetF 9 (mFn F__law_longest (mCons (mV 5) (mCons (mV 2) mNil)) 2))
      (mSeq (mSetF 10 (mCall (mCons (mV 2) mNil) gList))
      (mSeq (mIfS (mOr (mNot (mB (mFn (F__law_same 8) (mCons (mLendK 4 ["Book"] "rows" (mMe "Book" "match" F_Book_match 2 (mV 4) (mCons (mV 10) mNil))) (mCons (mV 9) mNil)) 2))) (mOr (mNot (mB (mFn (F__law_same 8) (mCons (mLendK 4 ["Book"] "rows" (mMe "Book" "match" F_Book_match 2 (mV 4) (mCons (mCall (mCons (mV 2) mNil) gTuple) mNil))) (mCons (mV 9) mNil)) 2))) (mB (m2 (mV 10) (mV 2) opNe))))
        (mRet (mC (.bl false)))
        Out.nx)
      (mSeq (mFor (mItems (m2 (mV 5) (mLst (mCons (mSl (mCall (mCons (m2 (mV 3) (mLst (mCons (mC (.int 0)) mNil)) opAdd) mNil) gTuple) none (some (mC (.int 12)))) (mCons (mTup (mCons (m2 (mV 2) (mNeg (mC (.int 1))) opIx) mNil)) mNil))) opAdd)) (pName 7)
        l2_law)
      (mSeq (mIfS (mAnd (mB (m2 (mCall (mCons (mV 3) mNil) gLen) (mC (.int 12)) opLt)) (mNot (mB (mFn (F__law_same 8) (mCons (mFn F_Book_fits (mCons (mCall (mCons (m2 (mV 3) (mLst (mCons (mC (.int 9)) mNil)) opAdd) mNil) gTuple) (mCons (mCall (mCons (mV 2) mNil) gTuple) mNil)) 2) (mCons (mC (.bl false)) mNil)) 2))))
        (mRet (mC (.bl false)))
        Out.nx)
      (mSeq (mIfS (mNot (mB (mFn (F__law_same 8) (mCons (mLendK 4 ["Book"] "rows" (mLc (mItOD "Book" "rows" (mV 4)) (pName 11) mYes e2_law [11])) (mCons (mV 5) mNil)) 2)))
        (mRet (mC (.bl false)))
        Out.nx)
      (mIfS (mB (m2 (mV 9) (mC .non) opIsn))
        (mSeq (mDropM (mCallT "Book" (noFldT "drop") F_Book_drop 1 4 (mCons (mV 9) mNil)))
        (mFrz 7 (mFrz 5 (mSetO 5 (mLc (mItems (mV 5)) (pName 7) t1_law e3_law [7])))))
        Out.nx)))))))
def b_law : DL.Env → Out :=
    (mSeq (mSetF 1 (mFn F__law_draws (mCons (mFn F__law_cell (mCons (mV 0) (mCons (mC (.int 0)) mNil)) 2) (mCons (mC (.int 48)) mNil)) 2))
    (mSeq (mSetF 2 (m2 (mLst (mCons (mC (.int 0)) mNil)) (mLc (mRng1 (mCons (m2 (mCall (mCons (m2 (mV 1) (mC (.int 0)) opIx) mNil) gInt) (mC (.int 14)) opMod) mNil)) (pName 6) mYes e1_law [6]) opAdd))
    (mSeq (mSetF 3 (mRev (mV 2)))
    (mSeq (mMkTG 4 "Book" I_Book_init)
    (mSeq (mSetO 5 (mLst mNil))
    (mSeq (mFor (mRng1 (mCons (m2 (mCall (mCons (m2 (mV 1) (mC (.int 1)) opIx) mNil) gInt) (mC (.int 11)) opMod) mNil)) (pName 6)
      l1_law)
    (mSeq (mSetIO "Book" F_Book_setitem 4 (mTup (mCons (mC (.int 98)) (mCons (mC (.int 97)) mNil))) (mTup (mCons (mMake "Signs" 1 I_Signs_init (mCons (mLst mNil) mNil)) (mCons (mC (.str "")) mNil))))
    (mSeq (mApp 5 (mTup (mCons (mC (.int 98)) (mCons (mC (.int 97)) mNil))))
    (mSeq (mFor (mRng1 (mCons (mC (.int 4)) mNil)) (pName 8)
      l3_law)
    (mRet (mC (.bl true))))))))))))
def F_law : Fn := runB 12 b_law
theorem ok_law (T : Tx P K mg) {fd : FuncData} (U : FunD K "law" "law" (defArgs (top 24)) (defBody (top 24)) (defScope (top 24)) [] [] (He.ga K "law") fd) (O__law_draws : FnG P w ⟨K, CC clsL K⟩ mg base 1 "_law_draws" ["_law_cell_here", "_law_count"] F__law_draws) (O__law_cell : FnG P w ⟨K, CC clsL K⟩ mg base 1 "_law_cell" ["_law_script", "_law_at"] F__law_cell) (O_Book_init : InTr P w ⟨K, CC clsL K⟩ mg base 1 "Book" 0 I_Book_init) (O_Book_setitem : MeT P w ⟨K, CC clsL K⟩ mg base 1 "Book" "__setitem__" 2 F_Book_setitem) (O_Signs_init : InG P w ⟨K, CC clsL K⟩ mg base 3 "Signs" 1 I_Signs_init) (O__law_longest : FnG P w ⟨K, CC clsL K⟩ mg base 2 "_law_longest" ["_law_rows", "_law_pile"] F__law_longest) (O__law_same : FnG P w ⟨K, CC clsL K⟩ mg base 10 "_law_same" ["_law_told", "_law_due"] (F__law_same 8)) (O_Book_match : MeG P w ⟨K, CC clsL K⟩ mg base 2 "Book" "match" 2 F_Book_match) (O__law_fits : FnG P w ⟨K, CC clsL K⟩ mg base 1 "_law_fits" ["_law_tops", "_law_pile"] F__law_fits) (O_Book_fits : SmG P w ⟨K, CC clsL K⟩ mg base 1 "Book" "fits" 2 F_Book_fits) (O_it_Book : OItD P w ⟨K, CC clsL K⟩ mg base 1 "Book" "rows") (O_Book_drop : MeT P w ⟨K, CC clsL K⟩ mg base 3 "Book" "drop" 1 F_Book_drop) : FnOk P w K mg base (L2.CX P w) 11 (He.ga K "law") fd ["_law_script"] (spD ⟨K, CC clsL K⟩ 1 F_law) := by
  refine fn_dataD (K := ⟨K, CC clsL K⟩) (N := N_law) (b := b_law) U sc_law (by decide) (fun cdv A outer s H E hr hp tk => ?_)
  have nd := sc_law.nd
  have hu4 := hr.units
  have hu1 := room1 hr
  have hu5 := room5 hr
  exact (dss_cons (ds_setF (i := 1) (de_call O__law_draws (hr.mono (by omega)) tk (da_cons (de_call O__law_cell (hr.mono (by omega)) tk (da_cons (de_var 0) (da_cons de_int da_nil))) (da_cons de_int da_nil))) nd)
    (dss_cons (ds_setF (i := 2) (de_op od_add ne_add (de_lst (da_cons de_int da_nil)) (de_lc nd (di_range1 T.n_range (da_cons (de_op od_mod ne_opI (de_callTy cd_int ne_g1 T.n_int (by decide +kernel) (da_cons (de_ix (de_var 1) de_int) da_nil)) de_int) da_nil)) (blkOk_by (own := [("_law_k", 6)]) (N := N_law) (sc := defScope s_law) (by decide +kernel)) rfl (by decide) (fun _ _ _ _ _ => (dg_name nd (i := 6))) (fun _ _ _ _ _ => dts_nil) (fun _ _ _ _ _ => (de_op od_add ne_add de_int (de_op od_mod ne_opI (de_callTy cd_int ne_g1 T.n_int (by decide +kernel) (da_cons (de_ix (de_var 1) (de_op od_add ne_add de_int (de_var 6))) da_nil)) de_int))))) nd)
    (dss_cons (ds_setF (i := 3) (de_rev (de_var 2)) nd)
    (dss_cons (ds_mkTG 4 O_Book_init (hr.mono (by omega)) tk nd)
    (dss_cons (ds_setO (i := 5) (de_lst da_nil) nd)
    (dss_cons (ds_for hp (di_range1 T.n_range (da_cons (de_op od_mod ne_opI (de_callTy cd_int ne_g1 T.n_int (by decide +kernel) (da_cons (de_ix (de_var 1) de_int) da_nil)) de_int) da_nil)) (dg_name nd (i := 6))
      (dss_cons (ds_setO (i := 7) (de_sl (de_var 3) do_none (do_some (de_op od_add ne_add de_int (de_op od_mod ne_opI (de_callTy cd_int ne_g1 T.n_int (by decide +kernel) (da_cons (de_ix (de_var 1) (de_op od_add ne_add de_int (de_op od_mul ne_opI de_int (de_var 6)))) da_nil)) de_int)))) nd)
      (dss_cons (ds_if (dt_cmp (od_eq hu4) ne_eq (de_op od_mod ne_opI (de_callTy cd_int ne_g1 T.n_int (by decide +kernel) (da_cons (de_ix (de_var 1) (de_op od_add ne_add de_int (de_op od_mul ne_opI de_int (de_var 6)))) da_nil)) de_int) de_int)
        (dss_one (ds_setI 7 (de_op od_mod ne_opI (de_callTy cd_int ne_g1 T.n_int (by decide +kernel) (da_cons (de_ix (de_var 1) (de_op od_add ne_add de_int (de_op od_mul ne_opI de_int (de_var 6)))) da_nil)) (de_callB cd_len ne_g1 T.n_len (by decide +kernel) (da_cons (de_var 7) da_nil))) de_int))
        dss_nil)
      (dss_cons (ds_setIO 4 O_Book_setitem (fnSqOk T.fq_Book_setitem) (hr.mono (by omega)) (de_callTy cd_tuple ne_gTuple T.n_tuple (by decide +kernel) (da_cons (de_var 7) da_nil)) (de_tup (da_cons (de_make O_Signs_init (hr.mono (by omega)) tk (da_cons (de_lst (da_cons de_str da_nil)) da_nil)) (da_cons de_str da_nil))))
      (dss_one (ds_frz 7 (ds_if (dt_cmp (od_ni hu5) ne_ni (de_callTy cd_tuple ne_gTuple T.n_tuple (by decide +kernel) (da_cons (de_var 7) da_nil)) (de_var 5))
        (dss_one (ds_frz 7 (ds_app 5 (de_callTy cd_tuple ne_gTuple T.n_tuple (by decide +kernel) (da_cons (de_var 7) da_nil)))))
        dss_nil)))))))
    (dss_cons (ds_setIO 4 O_Book_setitem (fnSqOk T.fq_Book_setitem) (hr.mono (by omega)) (de_tup (da_cons de_int (da_cons de_int da_nil))) (de_tup (da_cons (de_make O_Signs_init (hr.mono (by omega)) tk (da_cons (de_lst da_nil) da_nil)) (da_cons de_str da_nil))))
    (dss_cons (ds_app 5 (de_tup (da_cons de_int (da_cons de_int da_nil))))
    (dss_cons (ds_for hp (di_range1 T.n_range (da_cons de_int da_nil)) (dg_name nd (i := 8))
      (dss_cons (ds_setF (i := 9) (de_call O__law_longest (hr.mono (by omega)) tk (da_cons (de_var 5) (da_cons (de_var 2) da_nil))) nd)
      (dss_cons (ds_setF (i := 10) (de_callTy cd_list ne_gList T.n_list (by decide +kernel) (da_cons (de_var 2) da_nil)) nd)
      (dss_cons (ds_if (DW.dt (dw_or (dt_not (dt_val (de_call O__law_same (hr.mono (by omega)) tk (da_cons (de_lendK 4 ["Book"] "rows" (de_me O_Book_match (hr.mono (by omega)) tk (de_var 4) (da_cons (de_var 10) da_nil))) (da_cons (de_var 9) da_nil))))) (dw_or (dt_not (dt_val (de_call O__law_same (hr.mono (by omega)) tk (da_cons (de_lendK 4 ["Book"] "rows" (de_me O_Book_match (hr.mono (by omega)) tk (de_var 4) (da_cons (de_callTy cd_tuple ne_gTuple T.n_tuple (by decide +kernel) (da_cons (de_var 2) da_nil)) da_nil))) (da_cons (de_var 9) da_nil))))) (dw_or1 (dt_cmp (od_ne hu4) ne_ne (de_var 10) (de_var 2))))))
        (dss_one (ds_ret de_bl))
        dss_nil)
      (dss_cons (ds_for hp (di_seq (de_op od_add ne_add (de_var 5) (de_lst (da_cons (de_sl (de_callTy cd_tuple ne_gTuple T.n_tuple (by decide +kernel) (da_cons (de_op od_add ne_add (de_var 3) (de_lst (da_cons de_int da_nil))) da_nil)) do_none (do_some de_int)) (da_cons (de_tup (da_cons (de_ix (de_var 2) (de_neg de_int)) da_nil)) da_nil))))) (dg_name nd (i := 7))
        (dss_one (ds_if (dt_not (dt_val (de_call O__law_same (hr.mono (by omega)) tk (da_cons (de_sm O_Book_fits (hr.mono (by omega)) tk (da_cons (de_var 7) (da_cons (de_var 10) da_nil))) (da_cons (de_call O__law_fits (hr.mono (by omega)) tk (da_cons (de_var 7) (da_cons (de_var 2) da_nil))) da_nil)))))
          (dss_one (ds_ret de_bl))
          dss_nil)))
      (dss_cons (ds_if (DW.dt (dw_and (dt_cmp (od_lt hu4) ne_opO (de_callB cd_len ne_g1 T.n_len (by decide +kernel) (da_cons (de_var 3) da_nil)) de_int) (dw_and1 (dt_not (dt_val (de_call O__law_same (hr.mono (by omega)) tk (da_cons (de_sm O_Book_fits (hr.mono (by omega)) tk (da_cons (de_callTy cd_tuple ne_gTuple T.n_tuple (by decide +kernel) (da_cons (de_op od_add ne_add (de_var 3) (de_lst (da_cons de_int da_nil))) da_nil)) (da_cons (de_callTy cd_tuple ne_gTuple T.n_tuple (by decide +kernel) (da_cons (de_var 2) da_nil)) da_nil))) (da_cons de_bl da_nil))))))))
        (dss_one (ds_ret de_bl))
        dss_nil)
      (dss_cons (ds_if (dt_not (dt_val (de_call O__law_same (hr.mono (by omega)) tk (da_cons (de_lendK 4 ["Book"] "rows" (de_lc nd (di_ownD O_it_Book (hr.mono (by omega)) (de_var 4)) (blkOk_by (own := [("_law_x", 11)]) (N := N_law) (sc := defScope s_law) (by decide +kernel)) rfl (by decide) (fun _ _ _ _ _ => (dg_name nd (i := 11))) (fun _ _ _ _ _ => dts_nil) (fun _ _ _ _ _ => (de_var 11)))) (da_cons (de_var 5) da_nil)))))
        (dss_one (ds_ret de_bl))
        dss_nil)
      (dss_one (ds_if (dt_cmp od_isn ne_isn (de_var 9) de_non)
        (dss_cons (ds_exprM (dm_meT 4 O_Book_drop (hr.mono (by omega)) tk (da_cons (de_var 9) da_nil)))
        (dss_one (ds_frz 7 (ds_frz 5 (ds_setLcO (i := 5) nd (sw_true rfl rfl rfl (by decide +kernel)) (di_seq (de_var 5)) (blkOk_by (own := [("_law_tops", 7)]) (N := N_law) (sc := defScope s_law) (by decide +kernel)) rfl (by decide) (fun _ _ _ _ _ => (dg_name nd (i := 7))) (fun _ _ _ _ _ => (dts_one (dt_cmp (od_ne hu4) ne_ne (de_var 7) (de_var 9)))) (fun _ _ _ _ _ => (de_var 7)))))))
        dss_nil)))))))))
    (dss_one (ds_ret de_bl)))))))))))
theorem all_law (T : Tx P K mg) {fd : FuncData} (U : FunD K "law" "law" (defArgs (top 24)) (defBody (top 24)) (defScope (top 24)) [] [] (He.ga K "law") fd) : FnOk P w K mg base (L2.CX P w) 11 (He.ga K "law") fd ["_law_script"] (spD ⟨K, CC clsL K⟩ 1 F_law) := by
  have O_exc_NoRow : ExG P w ⟨K, CC clsL K⟩ mg base 1 "NoRow" ["tops"] := ok_exc_NoRow T
  have O_Book_getitem : MeG P w ⟨K, CC clsL K⟩ mg base 3 "Book" "__getitem__" 2 F_Book_getitem := ok_Book_getitem T O_exc_NoRow
  have O_it_Book : OItD P w ⟨K, CC clsL K⟩ mg base 1 "Book" "rows" := ok_it_Book T
  have O_Book_setitem : MeT P w ⟨K, CC clsL K⟩ mg base 1 "Book" "__setitem__" 2 F_Book_setitem := ok_Book_setitem T
  have O__law_draws : FnG P w ⟨K, CC clsL K⟩ mg base 1 "_law_draws" ["_law_cell_here", "_law_count"] F__law_draws := ok__law_draws T
  have O_Book_init : InTr P w ⟨K, CC clsL K⟩ mg base 1 "Book" 0 I_Book_init := ok_Book_init T
  have O__law_cell : FnG P w ⟨K, CC clsL K⟩ mg base 1 "_law_cell" ["_law_script", "_law_at"] F__law_cell := ok__law_cell T
  have O_exc_SymbolError : ExG P w ⟨K, CC clsL K⟩ mg base 1 "SymbolError" ["symbol"] := ok_exc_SymbolError T
  have O_is_word : FnG P w ⟨K, CC clsL K⟩ mg base 1 "is_word" ["word"] F_is_word := ok_is_word T
  have O_is_sign : FnG P w ⟨K, CC clsL K⟩ mg base 2 "is_sign" ["word"] F_is_sign := ok_is_sign T O_is_word
  have O_Signs_init : InG P w ⟨K, CC clsL K⟩ mg base 3 "Signs" 1 I_Signs_init := ok_Signs_init T O_is_sign O_exc_SymbolError
  have O__law_fits : FnG P w ⟨K, CC clsL K⟩ mg base 1 "_law_fits" ["_law_tops", "_law_pile"] F__law_fits := ok__law_fits T
  have O__law_longest : FnG P w ⟨K, CC clsL K⟩ mg base 2 "_law_longest" ["_law_rows", "_law_pile"] F__law_longest := ok__law_longest T O__law_fits
  have O__law_same : FnG P w ⟨K, CC clsL K⟩ mg base 10 "_law_same" ["_law_told", "_law_due"] (F__law_same 8) := ok__law_same T
  have O_Book_drop : MeT P w ⟨K, CC clsL K⟩ mg base 3 "Book" "drop" 1 F_Book_drop := ok_Book_drop T O_exc_NoRow
  have O_Book_fits : SmG P w ⟨K, CC clsL K⟩ mg base 1 "Book" "fits" 2 F_Book_fits := ok_Book_fits T
  have O_Book_match : MeG P w ⟨K, CC clsL K⟩ mg base 2 "Book" "match" 2 F_Book_match := ok_Book_match T O_Book_fits
  exact ok_law T U O__law_draws O__law_cell O_Book_init O_Book_setitem O_Signs_init O__law_longest O__law_same O_Book_match O__law_fits O_Book_fits O_it_Book O_Book_drop
end
end LW.K33
namespace LW
open PySem L2 DL
def cLow : List Nat := [97, 98, 99, 100, 101, 102, 103, 104, 105, 106, 107, 108, 109, 110, 111, 112, 113, 114, 115, 116, 117, 118, 119, 120, 121, 122]
def cUpp : List Nat := [65, 66, 67, 68, 69, 70, 71, 72, 73, 74, 75, 76, 77, 78, 79, 80, 81, 82, 83, 84, 85, 86, 87, 88, 89, 90]
def cDig : List Nat := [48, 49, 50, 51, 52, 53, 54, 55, 56, 57]
theorem s_low : ("abcdefghijklmnopqrstuvwxyz" : Str) = mk cLow := by decide +kernel
theorem s_upp : ("ABCDEFGHIJKLMNOPQRSTUVWXYZ" : Str) = mk cUpp := by decide +kernel
theorem s_dig : ("0123456789" : Str) = mk cDig := by decide +kernel
def isW (l : List Nat) : Bool := decide (1 ≤ l.length) && decide (l.length ≤ 6) && l.all fun c => decide (c ∈ cLow ++ cUpp ++ cDig)
def isX (first : List Nat) (l : List Nat) : Bool := isW l && (match l with
  | c :: _ => decide (c ∈ first)
  | [] => false)
abbrev isSg := isX cLow
abbrev isNm := isX cUpp
theorem add_low : opAdd (.fz (.str "abcdefghijklmnopqrstuvwxyz")) (.fz (.str "ABCDEFGHIJKLMNOPQRSTUVWXYZ")) = .ok (.fz (.str (mk (cLow ++ cUpp)))) := by
  rw [s_low, s_upp, opAdd_str, if_pos (size_big (by decide))]
  rfl
theorem add_dig : opAdd (.fz (.str (mk (cLow ++ cUpp)))) (.fz (.str "0123456789")) = .ok (.fz (.str (mk (cLow ++ cUpp ++ cDig)))) := by
  rw [s_dig, opAdd_str, if_pos (size_big (by decide))]
  rfl
theorem ev_is_word (l : List Nat) (h : l.length ≤ 16777216) : F_is_word [.str (mk l)] = .ok (.fz (.bl (isW l))) := by
  unfold F_is_word runB b_is_word mRet onE mAndV mChn
  simp only [mCall, mCons, mNil, mV, mC, rdSlot, List.map_cons, List.map_nil, List.length_cons, List.length_nil, List.cons_append, List.nil_append, List.getD_cons_zero, Rz.ok_bind, EV.fr_fz, gLen_mk l h, opO_int, asB_bl]
  have e1 : mLc (mItems (mV 0)) (pName 1) mYes e1_is_word [1] (SL.val (.str (mk l)) :: List.replicate (2 - (0 + 1)) SL.no) =
      .ok (.ow true (.lst ((l.map fun c => decide (c ∈ cLow ++ cUpp ++ cDig)).map .bl))) := by
    rw [List.map_map]
    refine mLc_all (en := fun c => .str ⟨#[c]⟩) ?_ (fun c _ => ⟨.fz (.bl (decide (c ∈ cLow ++ cUpp ++ cDig))), ?_, rfl⟩) (size_big h)
    · simp [mItems, mV, rdSlot]
    · simp only [e1_is_word, m2, mV, mC, Rz.ok_bind, add_low, add_dig]
      exact in_sign c _
  by_cases h1 : 1 ≤ l.length
  · have h1' : (1 : Int) ≤ (l.length : Int) := by omega
    simp only [h1', decide_true, if_true, Rz.ok_bind, asB_bl]
    by_cases h2 : l.length ≤ 6
    · have h2' : (l.length : Int) ≤ 6 := by omega
      simp only [h2', decide_true, if_true, e1, Rz.ok_bind, EV.fr_new, OW.d_lst, gAll_map]
      simp [isW, h1, h2, Function.comp_def]
    · have h2' : ¬ (l.length : Int) ≤ 6 := by omega
      simp [h2', isW, h2]
  · have h1' : ¬ (1 : Int) ≤ (l.length : Int) := by omega
    simp [h1', isW, h1]
theorem isW_cons {l : List Nat} (h : isW l = true) : ∃ c r, l = c :: r := by
  cases l with
  | nil => cases h
  | cons c r => exact ⟨c, r, rfl⟩
theorem appF_one {F : Fn} {d r : D} (h : F [d] = .ok (.fz r)) : appF F [.fz d] = .ok (.fz r) := by
  unfold appF
  rw [show [EV.fz d].map EV.d = [d] from rfl, h]
  rfl
theorem appF_two {F : Fn} {d e r : D} (h : F [d, e] = .ok (.fz r)) : appF F [.fz d, .fz e] = .ok (.fz r) := by
  unfold appF
  rw [show [EV.fz d, EV.fz e].map EV.d = [d, e] from rfl, h]
  rfl
theorem ev_is_sign (l : List Nat) (h : l.length ≤ 16777216) : F_is_sign [.str (mk l)] = .ok (.fz (.bl (isSg l))) := by
  unfold F_is_sign runB b_is_sign mRet onE mAndV mFn
  simp only [mCons, mNil, mV, mC, rdSlot, List.map_cons, List.map_nil, List.length_cons, List.length_nil, List.cons_append, List.nil_append, List.getD_cons_zero, Rz.ok_bind, EV.fr_fz, if_true, m2, appF_one (ev_is_word l h), asB_bl]
  by_cases hw : isW l = true
  · obtain ⟨c, r, rfl⟩ := isW_cons hw
    simp only [hw, if_true, ix0_mk c r h, Rz.ok_bind, s_low, in_sign]
    simp [isX, hw]
  · have hw' : isW l = false := by simpa using hw
    simp [hw', isSg, isX]
def bigCell : Int := 1000001002002001005001004003000000000002001000003001002003000000002000000000000003001
def cellOf (ns : List Int) (i : Nat) : Int := match ns[i]? with
  | some n => if n < 0 then -n else n
  | none => bigCell
theorem ev_cell (ns : List Int) (i : Nat) : F__law_cell [.scr ns, .int i] = .ok (.fz (.int (cellOf ns i))) := by
  unfold F__law_cell runB b__law_cell mSeq mIfS mRet onE mB
  simp only [mCall, mCons, mNil, mV, mC, m2, rdSlot, List.map_cons, List.map_nil, List.length_cons, List.length_nil, List.cons_append, List.nil_append, List.getD_cons_zero, List.getD_cons_succ, Rz.ok_bind, EV.fr_fz, gLen_scr, opO_int, asB_bl]
  by_cases h : i < ns.length
  · have h' : (i : Int) < (ns.length : Int) := by omega
    have e : ns[i]? = some ns[i] := List.getElem?_eq_getElem h
    simp only [h', decide_true, if_true, ix_scr ns i _ e, Rz.ok_bind, EV.fr_fz]
    simp [absD, cellOf, e]
  · have h' : ¬ (i : Int) < (ns.length : Int) := by omega
    have e : ns[i]? = none := List.getElem?_eq_none (by omega)
    simp [h', cellOf, e, bigCell]
def drawsFrom (cell : Int) : Nat → Nat → Int → List Int
  | 0, _, _ => []
  | n + 1, k, left => if 1000000000000000000 ≤ cell ∧ 0 < left then left % 1000 :: drawsFrom cell n (k + 1) (left / 1000)
    else ((((cell + 3) * ((k : Int) + 5) * 7919 % 100003) * ((cell + 3) * ((k : Int) + 5) * 7919 % 100003) + cell + 11 * (k : Int)) % 99991 / 100) :: drawsFrom cell n (k + 1) left
def draws (cell : Int) (n : Nat) : List Int := drawsFrom cell n 0 cell
theorem drawsFrom_length (cell : Int) : ∀ (n k : Nat) (left : Int), (drawsFrom cell n k left).length = n
  | 0, _, _ => rfl
  | n + 1, k, left => by
    unfold drawsFrom
    split <;> simp [drawsFrom_length cell n]
theorem draws_length (cell : Int) (n : Nat) : (draws cell n).length = n := drawsFrom_length cell n 0 cell
theorem drawsFrom_nn (cell : Int) : ∀ (n k : Nat) (left : Int), ∀ x ∈ drawsFrom cell n k left, 0 ≤ x ∧ x < 1000
  | 0, _, _, x, h => by cases h
  | n + 1, k, left, x, h => by
    unfold drawsFrom at h
    split at h
    · rcases List.mem_cons.mp h with rfl | h
      · exact ⟨Int.emod_nonneg _ (by decide), Int.emod_lt_of_pos _ (by decide)⟩
      · exact drawsFrom_nn cell n _ _ x h
    · rcases List.mem_cons.mp h with rfl | h
      · generalize ((cell + 3) * ((k : Int) + 5) * 7919 % 100003) * ((cell + 3) * ((k : Int) + 5) * 7919 % 100003) + cell + 11 * (k : Int) = z
        have h1 := Int.emod_nonneg z (show (99991 : Int) ≠ 0 by decide)
        have h2 := Int.emod_lt_of_pos z (show (0 : Int) < 99991 by decide)
        omega
      · exact drawsFrom_nn cell n _ _ x h
theorem draws_nn (cell : Int) (n : Nat) : ∀ x ∈ draws cell n, 0 ≤ x ∧ x < 1000 := drawsFrom_nn cell n 0 cell
def DrInv (cell : Int) (n : Nat) (i : Nat) (e : DL.Env) : Prop := ∃ (row : List Int) (left : Int) (v4 v5 : SL), e = [.val (.int cell), .val (.int n), .own (.lst (row.map .int)), .val (.int left), v4, v5] ∧ row.length = i ∧ row ++ drawsFrom cell (n - i) i left = draws cell n
theorem mul_small {i j : Int} (h : j.natAbs < 18446744073709551616) : opMul (.fz (.int i)) (.fz (.int j)) = .ok (.fz (.int (i * j))) := by
  unfold opMul
  rw [opI_int, if_pos (by
    rw [Bool.or_eq_true, decide_eq_true_eq, decide_eq_true_eq]
    exact .inr h)]
theorem div_small {i j : Int} (h : 0 < j ∧ j < 1073741824) : opDiv (.fz (.int i)) (.fz (.int j)) = .ok (.fz (.int (i / j))) := by
  unfold opDiv
  rw [opI_int, if_pos (by rw [Bool.and_eq_true, decide_eq_true_eq, decide_eq_true_eq]; exact h)]
theorem mod_pos {i j : Int} (h : 0 < j) : opMod (.fz (.int i)) (.fz (.int j)) = .ok (.fz (.int (i % j))) := by
  unfold opMod
  rw [opI_int, if_pos (by rw [decide_eq_true_eq]; exact h)]
theorem sub_ints (i j : Int) : opSub (.fz (.int i)) (.fz (.int j)) = .ok (.fz (.int (i - j))) := rfl
theorem pow_18 : opPow (.fz (.int 10)) (.fz (.int 18)) = .ok (.fz (.int 1000000000000000000)) := by
  unfold opPow
  rw [opI_int, if_pos (by decide +kernel), show (10 : Int) ^ (18 : Int).toNat = 1000000000000000000 by decide +kernel]
theorem int_int (i : Int) : gInt [.fz (.int i)] = .ok (.fz (.int i)) := rfl
theorem app_ok {i : Nat} {m : DL.Env → Rz EV} {env : DL.Env} {ds : List D} {a : EV} {d : D} (h : env.getD i .no = .own (.lst ds)) (hm : m env = .ok a) (hf : a.fr = .fz d) (hl : ds.length < sizeLine) : mApp i m env = .nx (env.set i (.own (.lst (ds ++ [d])))) := by
  unfold mApp
  rw [h]
  dsimp only
  rw [hm]
  dsimp only
  rw [hf]
  dsimp only
  rw [if_pos hl]
theorem setF_ok {i : Nat} {m : DL.Env → Rz EV} {env : DL.Env} {a : EV} {d : D} (hm : m env = .ok a) (hf : a.fr = .fz d) : mSetF i m env = .nx (env.set i (.val d)) := by
  unfold mSetF onE
  rw [hm]
  dsimp only
  unfold stF
  rw [hf]
theorem setO_ok {i : Nat} {m : DL.Env → Rz EV} {env : DL.Env} {w : OW} (hm : m env = .ok (.ow true w)) : mSetO i m env = .nx (env.set i (.own w)) := by
  unfold mSetO onE
  rw [hm]
  rfl
theorem seq_ok {a b : DL.Env → Out} {env e : DL.Env} (h : a env = .nx e) : mSeq a b env = b e := by
  unfold mSeq
  rw [h]
theorem seq_ret {a b : DL.Env → Out} {env : DL.Env} {ev : EV} (h : a env = .ret ev) : mSeq a b env = .ret ev := by
  unfold mSeq
  rw [h]
theorem ifT {t : DL.Env → Rz Bool} {a b : DL.Env → Out} {env : DL.Env} (h : t env = .ok true) : mIfS t a b env = a env := by
  unfold mIfS
  rw [h]
  rfl
theorem ifF {t : DL.Env → Rz Bool} {a b : DL.Env → Out} {env : DL.Env} (h : t env = .ok false) : mIfS t a b env = b env := by
  unfold mIfS
  rw [h]
  rfl
theorem for_ok {it : DL.Env → Rz (List D)} {p : D → DL.Env → Rz DL.Env} {b : DL.Env → Out} {env : DL.Env} {ds : List D} (h : it env = .ok ds) : mFor it p b env = forF p b ds env := by
  unfold mFor
  rw [h]
theorem rng1_ok {a : DL.Env → Rz EV} {env : DL.Env} {n : Nat} (h : a env = .ok (.fz (.int n))) (hn : n < 4611686018427387904) : mRng1 (mCons a mNil) env = .ok ((List.range n).map fun (i : Nat) => .int i) := by
  unfold mRng1 mCons mNil
  rw [h]
  simp only [Rz.ok_bind, EV.fr_fz]
  rw [if_pos (by rw [Int.natAbs_natCast]; exact hn)]
  unfold DL.upTo
  rw [Int.toNat_natCast]
  simp only [Int.zero_add]
theorem drBody_hi {cell left : Int} {n x : Nat} {row : List Int} {v5 : SL} (h1 : 1000000000000000000 ≤ cell) (h2 : 0 < left) (hl : row.length < sizeLine) :
    l1__law_draws [.val (.int cell), .val (.int n), .own (.lst (row.map .int)), .val (.int left), .val (.int x), v5] = .nx [.val (.int cell), .val (.int n), .own (.lst ((row ++ [left % 1000]).map .int)), .val (.int (left / 1000)), .val (.int x), v5] := by
  unfold l1__law_draws
  rw [ifT (by simp only [mAnd, mB, m2, mV, mC, rdSlot, List.getD_cons_zero, List.getD_cons_succ, Rz.ok_bind, pow_18, opO_int, asB_bl, decide_eq_true h1, decide_eq_true h2, if_true]),
    seq_ok (app_ok (ds := row.map .int) (a := .fz (.int (left % 1000))) rfl (by simp only [m2, mCall, mCons, mNil, mV, mC, rdSlot, List.getD_cons_zero, List.getD_cons_succ, Rz.ok_bind, EV.fr_fz, int_int, mod_pos (show (0 : Int) < 1000 by decide)]) rfl (by rw [List.length_map]; exact hl)),
    setF_ok (a := .fz (.int (left / 1000))) (by simp only [m2, mV, mC, rdSlot, List.set_cons_zero, List.set_cons_succ, List.getD_cons_zero, List.getD_cons_succ, Rz.ok_bind, div_small (show (0 : Int) < 1000 ∧ (1000 : Int) < 1073741824 by decide)]) rfl]
  simp
theorem drBody_lo {cell left : Int} {n x : Nat} {row : List Int} {v5 : SL} (h : ¬ (1000000000000000000 ≤ cell ∧ 0 < left)) (hx : x ≤ 1000) (hl : row.length < sizeLine) :
    l1__law_draws [.val (.int cell), .val (.int n), .own (.lst (row.map .int)), .val (.int left), .val (.int x), v5] = .nx [.val (.int cell), .val (.int n), .own (.lst ((row ++ [(((cell + 3) * ((x : Int) + 5) * 7919 % 100003) * ((cell + 3) * ((x : Int) + 5) * 7919 % 100003) + cell + 11 * (x : Int)) % 99991 / 100]).map .int)), .val (.int left), .val (.int x), .val (.int ((cell + 3) * ((x : Int) + 5) * 7919 % 100003))] := by
  have h4 : ((x : Int) + 5).natAbs < 18446744073709551616 := by omega
  have h5 : (x : Int).natAbs < 18446744073709551616 := by omega
  have h7 : (7919 : Int).natAbs < 18446744073709551616 := by decide
  have hl1 := Int.emod_nonneg ((cell + 3) * ((x : Int) + 5) * 7919) (show (100003 : Int) ≠ 0 by decide)
  have hl2 := Int.emod_lt_of_pos ((cell + 3) * ((x : Int) + 5) * 7919) (show (0 : Int) < 100003 by decide)
  unfold l1__law_draws
  rw [ifF (by
    simp only [mAnd, mB, m2, mV, mC, rdSlot, List.getD_cons_zero, List.getD_cons_succ, Rz.ok_bind, pow_18, opO_int, asB_bl]
    by_cases b1 : 1000000000000000000 ≤ cell
    · have b2 : ¬ 0 < left := fun z => h ⟨b1, z⟩
      simp only [decide_eq_true b1, decide_eq_false b2, if_true]
    · simp only [decide_eq_false b1, Bool.false_eq_true, if_false]),
    seq_ok (setF_ok (a := .fz (.int ((cell + 3) * ((x : Int) + 5) * 7919 % 100003))) (by
      simp only [m2, mCall, mCons, mNil, mV, mC, rdSlot, List.getD_cons_zero, List.getD_cons_succ, Rz.ok_bind, EV.fr_fz, int_int, opAdd_int, mul_small h4, mul_small h7, mod_pos (show (0 : Int) < 100003 by decide)]) rfl)]
  generalize (cell + 3) * ((x : Int) + 5) * 7919 % 100003 = z at hl1 hl2 ⊢
  have h6 : z.natAbs < 18446744073709551616 := by omega
  rw [app_ok (ds := row.map .int) (a := .fz (.int ((z * z + cell + 11 * (x : Int)) % 99991 / 100))) rfl (by
      simp only [m2, mCall, mCons, mNil, mV, mC, rdSlot, List.set_cons_zero, List.set_cons_succ, List.getD_cons_zero, List.getD_cons_succ, Rz.ok_bind, EV.fr_fz, int_int, opAdd_int, mul_small h5, mul_small h6, mod_pos (show (0 : Int) < 99991 by decide), div_small (show (0 : Int) < 100 ∧ (100 : Int) < 1073741824 by decide)]) rfl (by rw [List.length_map]; exact hl)]
  simp
theorem ev_draws (cell : Int) (n : Nat) (hn : n ≤ 1000) : F__law_draws [.int cell, .int n] = .ok (.ow false (.lst ((draws cell n).map .int))) := by
  unfold F__law_draws runB
  have e0 : b__law_draws ([D.int cell, .int n].map SL.val ++ List.replicate (6 - [D.int cell, .int n].length) SL.no) = .ret (.ow false (.lst ((draws cell n).map .int))) := by
    unfold b__law_draws
    rw [seq_ok (setO_ok (w := .lst []) rfl), seq_ok (setF_ok (a := .fz (.int cell)) rfl rfl)]
    rw [show (List.set (List.set (List.map SL.val [D.int cell, D.int n] ++ List.replicate (6 - [D.int cell, D.int n].length) SL.no) 2 (SL.own (OW.lst []))) 3 (.val (.int cell))) = [.val (.int cell), .val (.int n), .own (.lst []), .val (.int cell), .no, .no] from rfl]
    obtain ⟨e', h1, row, left, v4, v5, rfl, h2, h3⟩ := for_inv (p := pName 4) (b := l1__law_draws) (fun (i : Nat) => D.int i) (DrInv cell n) (List.range n) 0
      [.val (.int cell), .val (.int n), .own (.lst []), .val (.int cell), .no, .no] (by
        rintro i x e hx ⟨row, left, v4, v5, rfl, h2, h3⟩
        rw [Nat.zero_add] at h2 h3 ⊢
        have hi : i < n := by
          have := (List.getElem?_eq_some_iff.mp hx).1
          simpa using this
        have hxi : x = i := by
          have := (List.getElem?_eq_some_iff.mp hx).2
          simpa using this.symm
        subst hxi
        rw [show n - x = n - (x + 1) + 1 by omega, drawsFrom] at h3
        have hrow : row.length < sizeLine := Nat.lt_of_lt_of_le (by omega : row.length < 1001) (size_big (by decide))
        by_cases h18 : 1000000000000000000 ≤ cell ∧ 0 < left
        · rw [if_pos h18] at h3
          exact ⟨_, _, rfl, .inl (drBody_hi h18.1 h18.2 hrow), row ++ [left % 1000], left / 1000, _, _, rfl, by simp [h2], by rw [List.append_assoc]; exact h3⟩
        · rw [if_neg h18] at h3
          exact ⟨_, _, rfl, .inl (drBody_lo h18 (by omega) hrow), _, left, _, _, rfl, by simp [h2], by rw [List.append_assoc]; exact h3⟩) ⟨[], cell, .no, .no, rfl, rfl, rfl⟩
    rw [List.length_range, Nat.zero_add] at h2 h3
    rw [Nat.sub_self] at h3
    have h4 : row = draws cell n := by rw [← h3]; simp [drawsFrom]
    subst h4
    rw [seq_ok (by rw [for_ok (rng1_ok (n := n) rfl (by omega))]; exact h1)]
    rfl
  rw [e0]
theorem appF_ow2 {F : Fn} {d e : D} {b : Bool} {w : OW} (h : F [d, e] = .ok (.ow b w)) : appF F [.fz d, .fz e] = .ok (.ow true w) := by
  unfold appF
  rw [show [EV.fz d, EV.fz e].map EV.d = [d, e] from rfl, h]
  rfl
theorem ap_draws (cell : Int) (n : Nat) (hn : n ≤ 1000) : ∃ ds : List Nat, appF F__law_draws [.fz (.int cell), .fz (.int n)] = .ok (.ow true (.lst (ds.map fun (k : Nat) => .int k))) ∧ ds.length = n ∧ ∀ x ∈ ds, x < 1000 := by
  refine ⟨(draws cell n).map Int.toNat, ?_, by rw [List.length_map, draws_length], fun x hx => ?_⟩
  · rw [appF_ow2 (ev_draws cell n hn), List.map_map]
    congr 3
    apply List.map_congr_left
    intro x hx
    have := (draws_nn cell n x hx).1
    show D.int x = D.int ((x.toNat : Nat) : Int)
    rw [Int.toNat_of_nonneg this]
  · obtain ⟨y, hy, rfl⟩ := List.mem_map.mp hx
    have := draws_nn cell n y hy
    omega
theorem mod_nat (a b : Nat) (h : 0 < b) : opMod (.fz (.int (a : Nat))) (.fz (.int (b : Nat))) = .ok (.fz (.int ((a % b : Nat) : Int))) := by
  rw [mod_pos (by omega)]
  rfl
end LW
namespace DL
open PySem L2
@[simp] theorem mC_e (d : D) (env : Env) : mC d env = .ok (.fz d) := rfl
@[simp] theorem mV_e (i : Nat) (env : Env) : mV i env = rdSlot (env.getD i .no) := rfl
@[simp] theorem rdSlot_val (d : D) : rdSlot (.val d) = .ok (.fz d) := rfl
@[simp] theorem rdSlot_own (w : OW) : rdSlot (.own w) = .ok (.ow false w) := rfl
@[simp] theorem m2_e (ma mb : Env → Rz EV) (g : EV → EV → Rz EV) (env : Env) : m2 ma mb g env = (ma env >>= fun a => mb env >>= fun b => g a b) := rfl
@[simp] theorem mB_e (m : Env → Rz EV) (env : Env) : mB m env = (m env >>= asB) := rfl
@[simp] theorem mAnd_e (a b : Env → Rz Bool) (env : Env) : mAnd a b env = (a env >>= fun x => if x = true then b env else .ok false) := rfl
@[simp] theorem mOr_e (a b : Env → Rz Bool) (env : Env) : mOr a b env = (a env >>= fun x => if x = true then .ok true else b env) := rfl
@[simp] theorem mNot_e (a : Env → Rz Bool) (env : Env) : mNot a env = (a env >>= fun x => .ok (!x)) := rfl
@[simp] theorem mAndV_e (a b : Env → Rz EV) (env : Env) : mAndV a b env = (a env >>= fun x => asB x >>= fun k => if k = true then b env else .ok (.fz (.bl false))) := rfl
@[simp] theorem mOrV_e (a b : Env → Rz EV) (env : Env) : mOrV a b env = (a env >>= fun x => asB x >>= fun k => if k = true then .ok (.fz (.bl true)) else b env) := rfl
@[simp] theorem mNotV_e (a : Env → Rz EV) (env : Env) : mNotV a env = (a env >>= fun x => asB x >>= fun k => .ok (.fz (.bl (!k)))) := rfl
@[simp] theorem mIf_e (t : Env → Rz Bool) (a b : Env → Rz EV) (env : Env) : mIf t a b env = (t env >>= fun x => if x = true then a env else b env) := rfl
@[simp] theorem mNil_e (env : Env) : mNil env = .ok [] := rfl
@[simp] theorem mCons_e (a : Env → Rz EV) (r : Env → Rz (List EV)) (env : Env) : mCons a r env = (a env >>= fun x => r env >>= fun xs => .ok (x.fr :: xs)) := rfl
@[simp] theorem mCall_e (a : Env → Rz (List EV)) (g : List EV → Rz EV) (env : Env) : mCall a g env = (a env >>= fun xs => g xs) := rfl
@[simp] theorem mFn_e (F : Fn) (a : Env → Rz (List EV)) (n : Nat) (env : Env) : mFn F a n env = (a env >>= fun evs => if evs.length = n then appF F evs else .stuck) := rfl
@[simp] theorem mMake_e (c : Str) (n : Nat) (IF : IFn) (m : Env → Rz (List EV)) (env : Env) : mMake c n IF m env = (m env >>= fun evs => if evs.length = n then appI c IF evs else .stuck) := rfl
@[simp] theorem mTup_e (a : Env → Rz (List EV)) (env : Env) : mTup a env = (a env >>= fun xs => orStuck (allFz xs) >>= fun ds => if ds.length ≤ sizeLine then .ok (.fz (.tup ds)) else .stuck) := rfl
@[simp] theorem mLst_e (a : Env → Rz (List EV)) (env : Env) : mLst a env = (a env >>= fun xs => orStuck (allFz xs) >>= fun ds => if ds.length ≤ sizeLine then .ok (.ow true (.lst ds)) else .stuck) := rfl
@[simp] theorem mFld_e (cs : List Str) (f : Str) (m : Env → Rz EV) (env : Env) : mFld cs f m env = (m env >>= fun a => orStuck (fldD cs f a.d) >>= fun d => .ok (.fz d)) := rfl
@[simp] theorem mSl_e (m : Env → Rz EV) (lo hi : Option (Env → Rz EV)) (env : Env) : mSl m lo hi env = (m env >>= fun a => mPart lo env >>= fun l => mPart hi env >>= fun h => gSl a l h) := rfl
@[simp] theorem mPart_none (env : Env) : mPart none env = .ok none := rfl
@[simp] theorem mPart_some (m : Env → Rz EV) (env : Env) : mPart (some m) env = (m env >>= fun a => match a with
    | .fz (.int i) => .ok (some i)
    | _ => .stuck) := rfl
@[simp] theorem mM1_e (ma mb : Env → Rz EV) (g : Str → EV → Rz EV) (env : Env) : mM1 ma mb g env = (ma env >>= fun a => isS a >>= fun s => mb env >>= fun b => g s b) := rfl
@[simp] theorem mItems_e (m : Env → Rz EV) (env : Env) : mItems m env = (m env >>= fun a => frD a >>= items) := rfl
@[simp] theorem mSortSet_e (m : Env → Rz EV) (env : Env) : mSortSet m env = (m env >>= sortSetD) := rfl
@[simp] theorem mRet_e (m : Env → Rz EV) (env : Env) : mRet m env = (match m env with
    | .ok ev => .ret ev
    | .exc e => .exc e env
    | .stuck => .stuck) := rfl
@[simp] theorem mSeq_e (a b : Env → Out) (env : Env) : mSeq a b env = (match a env with
    | .nx e => b e
    | o => o) := rfl
@[simp] theorem mIfS_e (t : Env → Rz Bool) (a b : Env → Out) (env : Env) : mIfS t a b env = (match t env with
    | .ok c => if c = true then a env else b env
    | .exc e => .exc e env
    | .stuck => .stuck) := rfl
@[simp] theorem mSetF_e (i : Nat) (m : Env → Rz EV) (env : Env) : mSetF i m env = (match m env with
    | .ok ev => stF i ev env
    | .exc e => .exc e env
    | .stuck => .stuck) := rfl
@[simp] theorem mSetO_e (i : Nat) (m : Env → Rz EV) (env : Env) : mSetO i m env = (match m env with
    | .ok ev => stO i ev env
    | .exc e => .exc e env
    | .stuck => .stuck) := rfl
@[simp] theorem stF_old (i : Nat) (w : OW) (env : Env) : stF i (.ow false w) env = .stuck := rfl
@[simp] theorem opEq_e (a b : EV) : opEq a b = (orStuck (eqD a.d b.d) >>= fun k => .ok (.fz (.bl k))) := rfl
@[simp] theorem opNe_e (a b : EV) : opNe a b = (orStuck (eqD a.d b.d) >>= fun k => .ok (.fz (.bl (!k)))) := rfl
@[simp] theorem opIx_e (a b : EV) : opIx a b = (orStuck (ixD a b) >>= fun d => .ok (.fz d)) := rfl
@[simp] theorem ixD_lst (ds : List D) (i : Int) : ixD (.fz (.lst ds)) (.fz (.int i)) = atI ds i := rfl
@[simp] theorem ixD_own (n : Bool) (ds : List D) (i : Int) : ixD (.ow n (.lst ds)) (.fz (.int i)) = atI ds i := rfl
@[simp] theorem ixD_tup (ds : List D) (i : Int) : ixD (.fz (.tup ds)) (.fz (.int i)) = atI ds i := rfl
@[simp] theorem pName_e (i : Nat) (d : D) (env : Env) : pName i d env = .ok (env.set i (.val d)) := rfl
@[simp] theorem frD_old (w : OW) : frD (.ow false w) = .stuck := rfl
@[simp] theorem gLen_lst' (b : Bool) (ds : List D) : gLen [.ow b (.lst ds)] = .ok (.fz (.int ds.length)) := rfl
@[simp] theorem gLen_l (ds : List D) : gLen [.fz (.lst ds)] = .ok (.fz (.int ds.length)) := rfl
@[simp] theorem gLen_t (ds : List D) : gLen [.fz (.tup ds)] = .ok (.fz (.int ds.length)) := rfl
@[simp] theorem gLen_s (ns : List Int) : gLen [.fz (.scr ns)] = .ok (.fz (.int ns.length)) := rfl
@[simp] theorem gInt_i (i : Int) : gInt [.fz (.int i)] = .ok (.fz (.int i)) := rfl
@[simp] theorem lenD_lst (ds : List D) : lenD (.lst ds) = some (.int ds.length) := rfl
@[simp] theorem lenD_tup (ds : List D) : lenD (.tup ds) = some (.int ds.length) := rfl
@[simp] theorem lenD_scr (ds : List Int) : lenD (.scr ds) = some (.int ds.length) := rfl
@[simp] theorem absD_int (i : Int) : absD (.int i) = some (.int (if i < 0 then -i else i)) := rfl
@[simp] theorem intD_int (i : Int) : intD (.int i) = some (.int i) := rfl
theorem allD_bls (f : List Bool → Bool) (bs : List Bool) : allD f (.lst (bs.map .bl)) = some (.bl (f bs)) := by simp [allD]
@[simp] theorem allD_const {α : Type} (l : List α) : allD (fun bs => bs.all id) (.lst (l.map fun _ => .bl true)) = some (.bl true) := by
  rw [show (l.map fun _ => D.bl true) = (l.map fun _ => true).map D.bl by rw [List.map_map]; rfl, allD_bls]
  simp
def PL : Nat → D → Prop
  | 0, _ => False
  | _ + 1, .non => True
  | _ + 1, .bl _ => True
  | _ + 1, .int _ => True
  | _ + 1, .str x => PyData.strOk x = true
  | n + 1, .tup ds => ds.length ≤ 100000 ∧ ∀ d ∈ ds, PL n d
  | n + 1, .lst ds => ds.length ≤ 100000 ∧ ∀ d ∈ ds, PL n d
  | _ + 1, _ => False
theorem canLays_of : ∀ {n : Nat} {ds : List D}, (∀ d ∈ ds, (toPy d).canLay0 = true ∧ (toPy d).depth ≤ n) → PyData.canLayAll0 (toPys ds) = true ∧ PyData.depthAll (toPys ds) ≤ n
  | n, [], _ => by simp [toPys, PyData.canLayAll0, PyData.depthAll]
  | n, d :: ds, h => by
    obtain ⟨h1, h2⟩ := h d List.mem_cons_self
    obtain ⟨h3, h4⟩ := canLays_of (n := n) fun e he => h e (.tail _ he)
    simp only [toPys, PyData.canLayAll0, PyData.depthAll, h1, h3, Bool.and_self, true_and]
    exact Nat.max_le.mpr ⟨h2, h4⟩
theorem PL.lay : ∀ {n : Nat} {d : D}, PL n d → (toPy d).canLay0 = true ∧ (toPy d).depth ≤ n
  | 0, _, h => h.elim
  | _ + 1, .non, _ => by simp [toPy, PyData.canLay0, PyData.depth]
  | _ + 1, .bl _, _ => by simp [toPy, PyData.canLay0, PyData.depth]
  | _ + 1, .int _, _ => by simp [toPy, PyData.canLay0, PyData.depth]
  | _ + 1, .str _, h => by
    have h : PyData.strOk _ = true := h
    simp [toPy, PyData.canLay0, PyData.depth, h]
  | n + 1, .tup ds, h => by
    obtain ⟨h3, h4⟩ := canLays_of (n := n) fun e he => (h.2 e he).lay
    simp only [toPy, PyData.canLay0, PyData.depth, h3, true_and]
    omega
  | n + 1, .lst ds, h => by
    obtain ⟨h3, h4⟩ := canLays_of (n := n) fun e he => (h.2 e he).lay
    simp only [toPy, PyData.canLay0, PyData.depth, h3, true_and]
    omega
theorem PL.shaped {n : Nat} {d : D} (h : PL n d) (hn : n ≤ 64) : SeqAt.shaped (toPy d) = true := by
  obtain ⟨h1, h2⟩ := h.lay
  unfold SeqAt.shaped
  rw [h1, decide_eq_true (Nat.le_trans h2 hn)]
  rfl
theorem eqD_refl {n : Nat} {d : D} (h : PL n d) (hn : n ≤ 64) : eqD d d = some true := by
  have hs := h.shaped hn
  have hr : PyData.eqv (toPy d) (toPy d) = true := SeqAt.eqv_refl _ h.lay.1
  cases d with
  | int i => simp
  | str x => simp
  | bl b => simp
  | non => simp only [eqD, hs, hr, and_self, if_true]
  | tup ds => simp only [eqD, hs, hr, and_self, if_true]
  | lst ds => simp only [eqD, hs, hr, and_self, if_true]
  | _ => cases n <;> exact h.elim
theorem PL.mono : ∀ {n m : Nat} {d : D}, n ≤ m → PL n d → PL m d
  | 0, _, _, _, h => h.elim
  | n + 1, 0, _, q, _ => absurd q (by omega)
  | n + 1, m + 1, .non, _, _ => trivial
  | n + 1, m + 1, .bl _, _, _ => trivial
  | n + 1, m + 1, .int _, _, _ => trivial
  | n + 1, m + 1, .str _, _, h => h
  | n + 1, m + 1, .tup ds, q, h => ⟨h.1, fun d hd => (h.2 d hd).mono (by omega)⟩
  | n + 1, m + 1, .lst ds, q, h => ⟨h.1, fun d hd => (h.2 d hd).mono (by omega)⟩
end DL
namespace LW
open PySem L2 DL
theorem appF_fz {F : Fn} {evs : List EV} {r : D} (h : F (evs.map EV.d) = .ok (.fz r)) (ha : allFzB evs = true) : appF F evs = .ok (.fz r) := by
  unfold appF
  rw [h]
  simp only [ha, if_true]
  rfl
theorem same_refl : ∀ (n : Nat) (d : D), PL n d → n ≤ 60 → F__law_same n [d, d] = .ok (.fz (.bl true))
  | 0, _, h, _ => h.elim
  | n + 1, d, h, hn => by
    have he := eqD_refl h (by omega)
    have seq : ∀ ds : List D, ds.length ≤ 100000 → (∀ e ∈ ds, PL n e) → ∀ x y : SL, (∀ i : Nat, i < ds.length → rdSlot x = .ok (.fz (.tup ds)) ∧ rdSlot y = .ok (.fz (.tup ds)) ∨ rdSlot x = .ok (.fz (.lst ds)) ∧ rdSlot y = .ok (.fz (.lst ds))) →
        ∀ z : SL, (mRng1 (mCons (mCall (mCons (mV 1) mNil) gLen) mNil)) [x, y, z] = .ok ((List.range ds.length).map fun (i : Nat) => .int i) → mLc (mRng1 (mCons (mCall (mCons (mV 1) mNil) gLen) mNil)) (pName 2) mYes (e1__law_same (F__law_same n)) [2] [x, y, z] = .ok (.ow true (.lst ((List.range ds.length).map fun _ => .bl true))) := fun ds hl hd x y hxy z hr => by
      refine mLc_all (i := 2) (e := e1__law_same (F__law_same n)) (env := [x, y, z]) (f := fun _ => .bl true) hr (fun i hi => by
        have hi := List.mem_range.mp hi
        refine ⟨.fz (.bl true), ?_, rfl⟩
        have ih := same_refl n ds[i] (hd _ (List.getElem_mem hi)) (by omega)
        have hx : atI ds (i : Int) = some ds[i] := atI_nat (List.getElem?_eq_getElem hi)
        unfold e1__law_same
        rcases hxy i hi with ⟨h1, h2⟩ | ⟨h1, h2⟩
        · simp [h1, h2, opIx, ixD, hx, appF_fz (F := F__law_same n) (evs := [.fz ds[i], .fz ds[i]]) ih rfl]
        · simp [h1, h2, opIx, ixD, hx, appF_fz (F := F__law_same n) (evs := [.fz ds[i], .fz ds[i]]) ih rfl]) (by rw [List.length_range]; exact size_big (by omega))
    show runB 3 (b__law_same (F__law_same n)) [d, d] = _
    unfold runB b__law_same
    cases d with
    | non => simp [opIs, DL.isNon]
    | bl b => simp [opIs, DL.isNon, isTy_bl, kitB_bb, opEq]
    | int i => simp [opIs, DL.isNon, isTy_int, kitB_ib, kitB_ii, opEq]
    | str x => simp [opIs, DL.isNon, isTy_str, kitB_sb, kitB_si, kitB_ss, opEq]
    | tup ds =>
      have hr : (mRng1 (mCons (mCall (mCons (mV 1) mNil) gLen) mNil)) [.val (.tup ds), .val (.tup ds), .no] = .ok ((List.range ds.length).map fun (i : Nat) => .int i) := rng1_ok rfl (by have := h.1; omega)
      have hc := seq ds h.1 h.2 (.val (.tup ds)) (.val (.tup ds)) (fun _ _ => .inl ⟨rfl, rfl⟩) .no hr
      simp [opIs, DL.isNon, isTy_tup, kitB_tb, kitB_ti, kitB_ts, kitB_tt, kitB_tl, opEq, he, hc]
    | lst ds =>
      have hr : (mRng1 (mCons (mCall (mCons (mV 1) mNil) gLen) mNil)) [.val (.lst ds), .val (.lst ds), .no] = .ok ((List.range ds.length).map fun (i : Nat) => .int i) := rng1_ok rfl (by have := h.1; omega)
      have hc := seq ds h.1 h.2 (.val (.lst ds)) (.val (.lst ds)) (fun _ _ => .inr ⟨rfl, rfl⟩) .no hr
      simp [opIs, DL.isNon, isTy_lst, kitB_lb, kitB_li, kitB_ls, kitB_lt, kitB_ll, opEq, he, hc]
    | _ => exact h.elim
end LW
namespace LW
open PySem L2 DL
section
variable {α : Type}
def insB (lt : α → α → Bool) (x : α) (l : List α) : List α := l.takeWhile (lt · x) ++ x :: l.dropWhile (lt · x)
def isort (lt : α → α → Bool) (l : List α) : List α := l.foldl (fun acc x => insB lt x acc) []
theorem insB_perm (lt : α → α → Bool) (x : α) (l : List α) : (insB lt x l).Perm (x :: l) := by
  unfold insB
  refine List.perm_middle.trans (.cons x ?_)
  rw [List.takeWhile_append_dropWhile]
theorem isort_go (lt : α → α → Bool) : ∀ (l acc : List α), (l.foldl (fun acc x => insB lt x acc) acc).Perm (l ++ acc)
  | [], acc => .refl _
  | x :: l, acc => by
    show (l.foldl _ (insB lt x acc)).Perm _
    refine (isort_go lt l _).trans ?_
    refine ((insB_perm lt x acc).append_left l).trans ?_
    exact List.perm_middle
theorem isort_perm (lt : α → α → Bool) (l : List α) : (isort lt l).Perm l := (isort_go lt l []).trans (by simp)
end
theorem strLt_asym {a b : Str} (h : strLt a b = true) : strLt b a = false := by
  rw [← Bool.not_eq_true, DS.strLt_iff]
  exact List.lt_asymm (DS.strLt_iff.mp h)
def goodS (w : Str) : Bool := decide (w = "$") || isSg w.cps.toList
theorem ev_is_sign' (w : Str) (h : w.cps.toList.length ≤ 16777216) : F_is_sign [.str w] = .ok (.fz (.bl (isSg w.cps.toList))) := by
  have := ev_is_sign w.cps.toList h
  rwa [DL.mk_of] at this
abbrev symE (w : Str) : Exn := ⟨"SymbolError", [("symbol", .str w)]⟩
theorem init_loop (v0 v1 : SL) : ∀ (ws : List Str) (v2 : SL), (∀ w ∈ ws, w.cps.toList.length ≤ 16777216) → ∃ v2', forF (pName 2) l1_Signs_init (ws.map .str) [v0, v1, v2] = match ws.find? (fun w => !goodS w) with
    | some w => .exc (symE w) [v0, v1, v2']
    | none => .nx [v0, v1, v2']
  | [], v2, _ => ⟨v2, rfl⟩
  | w :: ws, v2, h => by
    have hs := appF_fz (evs := [.fz (.str w)]) (ev_is_sign' w (h w List.mem_cons_self)) rfl
    have e : l1_Signs_init [v0, v1, .val (.str w)] = if goodS w = true then .nx [v0, v1, .val (.str w)] else .exc (symE w) [v0, v1, .val (.str w)] := by
      unfold l1_Signs_init
      by_cases hd : w = "$"
      · subst hd
        simp [opNe, goodS]
      · cases hg : isSg w.cps.toList with
        | true =>
          simp [opNe, hd, goodS, hs, hg]
        | false =>
          simp [opNe, hd, goodS, hs, hg, mRaise, allFz]
    rw [List.map_cons, forF, List.find?_cons]
    simp only [pName_e, List.set_cons_zero, List.set_cons_succ, e]
    cases hg : goodS w with
    | true =>
      obtain ⟨v2', i⟩ := init_loop v0 v1 ws (.val (.str w)) fun x hx => h x (.tail _ hx)
      exact ⟨v2', by simpa using i⟩
    | false => exact ⟨.val (.str w), by simp⟩
theorem ev_init {d : D} {ws : List Str} (hd : d = .lst (ws.map .str) ∨ d = .tup (ws.map .str)) (hl : ws.length < 4000) (hw : ∀ w ∈ ws, w.cps.toList.length ≤ 16777216) : I_Signs_init [d] = match ws.find? (fun w => !goodS w) with
    | some w => .exc (symE w)
    | none => .ok [("words", .tup ((DS.sortU ws).map .str))] := by
  unfold I_Signs_init DL.runI b_Signs_init
  have hi : mItems (mV 1) [.own (.self "Signs" []), .val d, .no] = .ok (ws.map .str) := by
    rcases hd with rfl | rfl <;> simp
  obtain ⟨v2', h⟩ := init_loop (.own (.self "Signs" [])) (.val d) ws .no hw
  have hfor : mFor (mItems (mV 1)) (pName 2) l1_Signs_init [.own (.self "Signs" []), .val d, .no] = _ := (for_ok hi).trans h
  have hs : sortSetD (.fz d) = .ok (.ow true (.lst ((DS.sortU ws).map .str))) := by
    rcases hd with rfl | rfl <;> simp [sortSetD, hl]
  cases hf : ws.find? (fun w => !goodS w) with
  | some w =>
    rw [hf] at hfor
    simp [hfor]
  | none =>
    rw [hf] at hfor
    simp [hfor, mSetFld, hs, seqD, putD]
end LW
namespace LW
open PySem L2 DL
abbrev stD (l : List Str) : List D := l.map .str
theorem cut_take (ds : List D) (n : Nat) : cutD ds none (some (n : Int)) = ds.take n := by
  have h0 : ¬ ((n : Int) < 0) := by omega
  unfold cutD HT.sIx
  simp [h0]
theorem pure_strs (ws : List Str) : pureDs (stD ws) = true := by
  induction ws with
  | nil => rfl
  | cons w ws ih => show (pureD (.str w) && pureDs (stD ws)) = true; rw [ih]; rfl
def signsR (ws : List Str) : Rz EV := match ws.find? (fun w => !goodS w) with
  | some w => .exc (symE w)
  | none => .ok (.ow true (.ins "Signs" [("words", .tup (stD (DS.sortU ws)))]))
theorem app_signs {a : EV} {ws : List Str} (hd : a.d = .lst (stD ws) ∨ a.d = .tup (stD ws)) (hl : ws.length < 4000) (hw : ∀ w ∈ ws, w.cps.toList.length ≤ 16777216) : appI "Signs" I_Signs_init [a] = signsR ws := by
  unfold appI signsR
  rw [show [a].map EV.d = [a.d] from rfl, ev_init hd hl hw]
  cases ws.find? (fun w => !goodS w) with
  | some w => simp [pureFs, pureD]
  | none => simp [pureFs, pureD, pure_strs]
abbrev natD (ds : List Nat) : List D := ds.map fun (k : Nat) => .int k
theorem at_nat (ds : List Nat) (i : Int) (k : Nat) (hi : i = k) (h : k < ds.length) : atI (natD ds) i = some (.int (ds[k] : Nat)) := by
  subst hi
  rw [atI_nat]
  rw [List.getElem?_map, List.getElem?_eq_getElem h]; rfl
theorem ap_cell (ns : List Int) (x : Int) (k : Nat) (hx : x = k) : appF F__law_cell [.fz (.scr ns), .fz (.int x)] = .ok (.fz (.int (cellOf ns k))) := by
  subst hx
  exact appF_fz (evs := [.fz (.scr ns), .fz (.int k)]) (ev_cell ns k) rfl
theorem ap_dr (cell : Int) (j : Int) (n : Nat) (hj : j = n) (hn : n ≤ 1000) : ∃ ds : List Nat, appF F__law_draws [.fz (.int cell), .fz (.int j)] = .ok (.ow true (.lst (natD ds))) ∧ ds.length = n ∧ ∀ x ∈ ds, x < 1000 := by
  subst hj
  exact ap_draws cell n hn
end LW
namespace LW
open PySem L2 DL
abbrev Wd := List Str
abbrev Rl := Str × List Str
def lexB : Wd → Wd → Bool
  | [], [] => false
  | [], _ :: _ => true
  | _ :: _, [] => false
  | x :: xs, y :: ys => if x = y then lexB xs ys else strLt x y
def slx (u v : Wd) : Bool := decide (u.length < v.length) || (decide (u.length = v.length) && lexB u v)
theorem strLt_tot {a b : Str} (h : strLt a b = false) (h' : strLt b a = false) : a = b := by
  have e : ∀ {x y : Str}, strLt x y = false ↔ ¬ x.cps.toList < y.cps.toList := fun {x y} => by
    rw [← Bool.not_eq_true, DS.strLt_iff]
  exact DS.str_eq (DS.nlt_total (e.mp h) (e.mp h'))
theorem strLt_tr {a b c : Str} (h : strLt a b = true) (h' : strLt b c = true) : strLt a c = true := by
  rw [DS.strLt_iff] at *
  exact List.lt_trans h h'
theorem lexB_irr : ∀ u : Wd, lexB u u = false
  | [] => rfl
  | x :: xs => by unfold lexB; rw [if_pos rfl]; exact lexB_irr xs
theorem lexB_tot : ∀ {u v : Wd}, u.length = v.length → lexB u v = false → lexB v u = false → u = v
  | [], [], _, _, _ => rfl
  | [], _ :: _, h, _, _ => by cases h
  | _ :: _, [], h, _, _ => by cases h
  | x :: xs, y :: ys, h, h1, h2 => by
    unfold lexB at h1 h2
    by_cases e : x = y
    · subst e
      rw [if_pos rfl] at h1 h2
      rw [lexB_tot (by simpa using h) h1 h2]
    · rw [if_neg e] at h1
      rw [if_neg (Ne.symm e)] at h2
      exact absurd (strLt_tot h1 h2) e
theorem lexB_tr : ∀ {u v w : Wd}, lexB u v = true → lexB v w = true → lexB u w = true
  | [], [], _, h, _ => by cases h
  | [], _ :: _, [], _, h => by cases h
  | [], _ :: _, _ :: _, _, _ => rfl
  | _ :: _, [], _, h, _ => by cases h
  | _ :: _, _ :: _, [], _, h => by cases h
  | x :: xs, y :: ys, z :: zs, h1, h2 => by
    unfold lexB at *
    by_cases e : x = y
    · subst e
      rw [if_pos rfl] at h1
      by_cases f : x = z
      · subst f
        rw [if_pos rfl] at h2 ⊢
        exact lexB_tr h1 h2
      · rw [if_neg f] at h2 ⊢; exact h2
    · rw [if_neg e] at h1
      by_cases f : y = z
      · subst f; rw [if_neg e]; exact h1
      · rw [if_neg f] at h2
        have h3 := strLt_tr h1 h2
        rw [if_neg (fun g => by subst g; rw [strLt_asym h1] at h2; cases h2)]
        exact h3
theorem slx_iff {u v : Wd} : slx u v = true ↔ u.length < v.length ∨ (u.length = v.length ∧ lexB u v = true) := by
  unfold slx; simp
theorem slx_irr (u : Wd) : slx u u = false := by
  rw [← Bool.not_eq_true, slx_iff, lexB_irr]; simp
theorem slx_tr {u v w : Wd} (h : slx u v = true) (h' : slx v w = true) : slx u w = true := by
  rw [slx_iff] at *
  rcases h with h | ⟨h, k⟩
  · rcases h' with h' | ⟨h', _⟩ <;> exact .inl (by omega)
  · rcases h' with h' | ⟨h', k'⟩
    · exact .inl (by omega)
    · exact .inr ⟨by omega, lexB_tr k k'⟩
theorem slx_tot {u v : Wd} (h : slx u v = false) (h' : slx v u = false) : u = v := by
  rw [← Bool.not_eq_true, slx_iff] at h h'
  have e : u.length = v.length := by omega
  refine lexB_tot e ?_ ?_
  · rw [← Bool.not_eq_true]; exact fun z => h (.inr ⟨e, z⟩)
  · rw [← Bool.not_eq_true]; exact fun z => h' (.inr ⟨e.symm, z⟩)
def wle (u v : Wd) : Prop := slx v u = false
theorem wle_refl (u : Wd) : wle u u := slx_irr u
theorem wle_anti {u v : Wd} (h : wle u v) (h' : wle v u) : u = v := slx_tot h' h
theorem wle_tr {u v w : Wd} (h : wle u v) (h' : wle v w) : wle u w := by
  unfold wle at *
  cases e : slx w u with
  | false => rfl
  | true =>
    cases f : slx u v with
    | true => rw [slx_tr e f] at h'; cases h'
    | false => rw [slx_tot f h] at e; rw [e] at h'; cases h'
theorem wle_of {u v : Wd} (h : slx u v = true) : wle u v := by
  unfold wle
  cases e : slx v u with
  | false => rfl
  | true => have := slx_tr h e; rw [slx_irr] at this; cases this
theorem slx_wle {u v w : Wd} (h : slx u v = true) (h' : wle v w) : slx u w = true := by
  cases e : slx u w with
  | true => rfl
  | false =>
    have : wle w v := wle_tr e (wle_of h)
    have e2 := wle_anti h' this
    rw [e2] at h; rw [h] at e; cases e
theorem wle_len {u v : Wd} (h : wle u v) : u.length ≤ v.length := by
  unfold wle at h
  rw [← Bool.not_eq_true, slx_iff] at h
  omega
theorem lexB_cc (x y : Str) (a b : Wd) : lexB (x :: a) (y :: b) = if x = y then lexB a b else strLt x y := rfl
theorem lexB_app : ∀ {u u' : Wd} (v v' : Wd), u.length = u'.length → lexB (u ++ v) (u' ++ v') = if u = u' then lexB v v' else lexB u u'
  | [], [], v, v', _ => by simp
  | [], _ :: _, _, _, h => by cases h
  | _ :: _, [], _, _, h => by cases h
  | x :: xs, y :: ys, v, v', h => by
    rw [List.cons_append, List.cons_append, lexB_cc, lexB_cc]
    by_cases e : x = y
    · subst e
      rw [if_pos rfl, if_pos rfl, lexB_app v v' (by simpa using h)]
      by_cases f : xs = ys
      · subst f; simp
      · rw [if_neg f, if_neg (by simpa using f)]
    · rw [if_neg e, if_neg e, if_neg (by simp [e])]
theorem wle_iff {u v : Wd} : wle u v ↔ u.length < v.length ∨ (u.length = v.length ∧ lexB v u = false) := by
  unfold wle
  rw [← Bool.not_eq_true, slx_iff, ← Bool.not_eq_true]
  constructor
  · intro h
    by_cases e : u.length = v.length
    · exact .inr ⟨e, fun z => h (.inr ⟨e.symm, z⟩)⟩
    · exact .inl (by omega)
  · rintro (h | ⟨h, k⟩) (z | ⟨z, z'⟩)
    · omega
    · omega
    · omega
    · exact k z'
theorem wle_app {u u' v v' : Wd} (h : wle u u') (h' : wle v v') : wle (u ++ v) (u' ++ v') := by
  rw [wle_iff] at *
  rw [List.length_append, List.length_append]
  rcases h with h | ⟨h, k⟩
  · rcases h' with h' | ⟨h', _⟩ <;> exact .inl (by omega)
  · rcases h' with h' | ⟨h', k'⟩
    · exact .inl (by omega)
    · refine .inr ⟨by omega, ?_⟩
      rw [lexB_app v' v h.symm]
      split
      · exact k'
      · exact k
theorem wle_part {u v : Wd} (x : Wd) (h : wle u v) : wle u (x ++ v) ∧ wle u (v ++ x) := by
  have key : ∀ w : Wd, v.length < w.length ∨ w = v → wle u w := fun w hw => by
    rcases hw with hw | rfl
    · rw [wle_iff]; exact .inl (by have := wle_len h; omega)
    · exact h
  constructor
  · cases x with
    | nil => exact h
    | cons a r => exact key _ (.inl (by simp; omega))
  · cases x with
    | nil => rw [List.append_nil]; exact h
    | cons a r => exact key _ (.inl (by simp))
def leO (a b : Option Wd) : Prop := ∀ v, b = some v → ∃ u, a = some u ∧ wle u v
theorem leO_refl (a : Option Wd) : leO a a := fun v h => ⟨v, h, wle_refl v⟩
theorem leO_tr {a b c : Option Wd} (h : leO a b) (h' : leO b c) : leO a c := fun v e => by
  obtain ⟨u, e1, k1⟩ := h' v e
  obtain ⟨t, e2, k2⟩ := h u e1
  exact ⟨t, e2, wle_tr k2 k1⟩
theorem leO_none (a : Option Wd) : leO a none := fun v h => by cases h
theorem leO_anti {a b : Option Wd} (h : leO a b) (h' : leO b a) : a = b := by
  cases a with
  | none =>
    cases b with
    | none => rfl
    | some v => obtain ⟨u, e, _⟩ := h v rfl; cases e
  | some u =>
    cases b with
    | none => obtain ⟨v, e, _⟩ := h' u rfl; cases e
    | some v =>
      obtain ⟨a, e1, k1⟩ := h v rfl
      obtain ⟨b, e2, k2⟩ := h' u rfl
      cases e1; cases e2
      rw [wle_anti k1 k2]
def symW (f : Str → Option Wd) (x : Str) : Option Wd := if isSg x.cps.toList = true then some [x] else f x
def valW (f : Str → Option Wd) : List Str → Option Wd
  | [] => some []
  | x :: r => (symW f x).bind fun a => (valW f r).map (a ++ ·)
theorem valW_cons {f : Str → Option Wd} {x : Str} {r : List Str} {w : Wd} (h : valW f (x :: r) = some w) : ∃ a b, symW f x = some a ∧ valW f r = some b ∧ w = a ++ b := by
  unfold valW at h
  cases ha : symW f x with
  | none => rw [ha] at h; cases h
  | some a =>
    rw [ha, Option.bind_some] at h
    cases hb : valW f r with
    | none => rw [hb] at h; cases h
    | some b => rw [hb] at h; cases h; exact ⟨a, b, rfl, rfl, rfl⟩
theorem valW_of {f : Str → Option Wd} {x : Str} {r : List Str} {a b : Wd} (ha : symW f x = some a) (hb : valW f r = some b) : valW f (x :: r) = some (a ++ b) := by
  unfold valW; rw [ha, hb]; rfl
theorem symW_mono {f g : Str → Option Wd} (h : ∀ x, leO (f x) (g x)) (x : Str) : leO (symW f x) (symW g x) := by
  unfold symW
  split
  · exact leO_refl _
  · exact h x
theorem valW_mono {f g : Str → Option Wd} (h : ∀ x, leO (f x) (g x)) : ∀ r : List Str, leO (valW f r) (valW g r)
  | [] => leO_refl _
  | x :: r => fun v hv => by
    obtain ⟨a, b, ha, hb, rfl⟩ := valW_cons hv
    obtain ⟨a', ha', ka⟩ := symW_mono h x a ha
    obtain ⟨b', hb', kb⟩ := valW_mono h r b hb
    exact ⟨a' ++ b', valW_of ha' hb', wle_app ka kb⟩
theorem valW_part {f : Str → Option Wd} : ∀ {r : List Str} {w : Wd} {y : Str}, valW f r = some w → y ∈ r → ∃ a, symW f y = some a ∧ wle a w
  | x :: r, w, y, h, hy => by
    obtain ⟨a, b, ha, hb, rfl⟩ := valW_cons h
    rcases List.mem_cons.mp hy with rfl | hy
    · exact ⟨a, ha, (wle_part b (wle_refl a)).2⟩
    · obtain ⟨c, hc, k⟩ := valW_part hb hy
      exact ⟨c, hc, (wle_part a k).1⟩
theorem valW_congr {f g : Str → Option Wd} : ∀ {r : List Str}, (∀ y ∈ r, symW f y = symW g y) → valW f r = valW g r
  | [], _ => rfl
  | x :: r, h => by unfold valW; rw [h x List.mem_cons_self, valW_congr fun y hy => h y (.tail _ hy)]
def best (a b : Option Wd) : Option Wd := match a, b with
  | none, b => b
  | some u, none => some u
  | some u, some v => if slx v u = true then some v else some u
theorem best_l (a b : Option Wd) : leO (best a b) a := by
  cases a with
  | none => exact leO_none _
  | some u =>
    cases b with
    | none => exact leO_refl _
    | some v =>
      intro w hw; cases hw
      cases e : slx v u with
      | true => exact ⟨v, by simp [best, e], wle_of e⟩
      | false => exact ⟨u, by simp [best, e], wle_refl u⟩
theorem best_r (a b : Option Wd) : leO (best a b) b := by
  cases a with
  | none => exact leO_refl _
  | some u =>
    cases b with
    | none => exact leO_none _
    | some v =>
      intro w hw; cases hw
      cases e : slx v u with
      | true => exact ⟨v, by simp [best, e], wle_refl v⟩
      | false => exact ⟨u, by simp [best, e], e⟩
theorem best_or (a b : Option Wd) : best a b = a ∨ best a b = b := by
  cases a with
  | none => exact .inr rfl
  | some u =>
    cases b with
    | none => exact .inl rfl
    | some v =>
      unfold best
      dsimp only
      split
      · exact .inr rfl
      · exact .inl rfl
section
variable (rs : List Rl)
def Ln : Nat → Str → Option Wd
  | 0, _ => none
  | n + 1, X => rs.foldl (fun acc r => if r.1 = X then best acc (valW (Ln n) r.2) else acc) (Ln n X)
theorem fold_l {X : Str} {f : Str → Option Wd} : ∀ (l : List Rl) (a : Option Wd), leO (l.foldl (fun acc r => if r.1 = X then best acc (valW f r.2) else acc) a) a
  | [], a => leO_refl a
  | r :: l, a => by
    rw [List.foldl_cons]
    refine leO_tr (fold_l l _) ?_
    split
    · exact best_l _ _
    · exact leO_refl _
theorem fold_r {X : Str} {f : Str → Option Wd} : ∀ (l : List Rl) (a : Option Wd) (q : List Str), (X, q) ∈ l → leO (l.foldl (fun acc r => if r.1 = X then best acc (valW f r.2) else acc) a) (valW f q)
  | r :: l, a, q, h => by
    rw [List.foldl_cons]
    rcases List.mem_cons.mp h with rfl | h
    · refine leO_tr (fold_l l _) ?_
      rw [if_pos rfl]
      exact best_r _ _
    · exact fold_r l _ q h
theorem fold_or {X : Str} {f : Str → Option Wd} : ∀ (l : List Rl) (a : Option Wd), l.foldl (fun acc r => if r.1 = X then best acc (valW f r.2) else acc) a = a ∨ ∃ q, (X, q) ∈ l ∧ l.foldl (fun acc r => if r.1 = X then best acc (valW f r.2) else acc) a = valW f q
  | [], a => .inl rfl
  | r :: l, a => by
    rw [List.foldl_cons]
    have hb : (if r.1 = X then best a (valW f r.2) else a) = a ∨ (r.1 = X ∧ (if r.1 = X then best a (valW f r.2) else a) = valW f r.2) := by
      by_cases e : r.1 = X
      · rw [if_pos e]
        rcases best_or a (valW f r.2) with h | h
        · exact .inl h
        · exact .inr ⟨e, h⟩
      · rw [if_neg e]; exact .inl rfl
    rcases fold_or l (if r.1 = X then best a (valW f r.2) else a) with h | ⟨q, hq, h⟩
    · rcases hb with hb | ⟨e, hb⟩
      · exact .inl (h.trans hb)
      · exact .inr ⟨r.2, by rw [← e]; exact List.mem_cons_self, h.trans hb⟩
    · exact .inr ⟨q, .tail _ hq, h⟩
theorem Ln_succ (n : Nat) (X : Str) : leO (Ln rs (n + 1) X) (Ln rs n X) := fold_l rs _
theorem Ln_mono (X : Str) : ∀ {n m : Nat}, n ≤ m → leO (Ln rs m X) (Ln rs n X)
  | n, 0, h => by rw [Nat.le_zero.mp h]; exact leO_refl _
  | n, m + 1, h => by
    rcases Nat.eq_or_lt_of_le h with e | e
    · rw [e]; exact leO_refl _
    · exact leO_tr (Ln_succ rs m X) (Ln_mono X (Nat.le_of_lt_succ e))
theorem Ln_rule (n : Nat) {X : Str} {q : List Str} (h : (X, q) ∈ rs) : leO (Ln rs (n + 1) X) (valW (Ln rs n) q) := fold_r rs _ q h
theorem Ln_chg {n : Nat} {X : Str} (h : Ln rs (n + 1) X ≠ Ln rs n X) : ∃ w, Ln rs (n + 1) X = some w ∧ (∀ b, Ln rs n X = some b → slx w b = true) ∧ ∃ q, (X, q) ∈ rs ∧ valW (Ln rs n) q = some w ∧ (n = 0 ∨ ∃ y ∈ q, Ln rs n y ≠ Ln rs (n - 1) y ∧ ∃ a, Ln rs n y = some a ∧ wle a w) := by
  rcases fold_or (X := X) (f := Ln rs n) rs (Ln rs n X) with e | ⟨q, hq, e⟩
  · exact absurd e h
  · have e' : Ln rs (n + 1) X = valW (Ln rs n) q := e
    cases hw : valW (Ln rs n) q with
    | none =>
      exfalso
      rw [hw] at e'
      cases hb : Ln rs n X with
      | none => rw [e', hb] at h; exact h rfl
      | some b => obtain ⟨u, hu, _⟩ := Ln_succ rs n X b hb; rw [e'] at hu; cases hu
    | some w =>
      rw [hw] at e'
      refine ⟨w, e', fun b hb => ?_, q, hq, hw, ?_⟩
      · obtain ⟨u, hu, k⟩ := Ln_succ rs n X b hb
        rw [e'] at hu; cases hu
        cases s : slx w b with
        | true => rfl
        | false => exact absurd (by rw [e', hb, wle_anti k s]) h
      · cases n with
        | zero => exact .inl rfl
        | succ n =>
          right
          -- some part has changed
          by_cases all : ∀ y ∈ q, symW (Ln rs (n + 1)) y = symW (Ln rs n) y
          · exfalso
            have e2 := valW_congr all
            have h3 := Ln_rule rs n hq
            rw [← e2, hw] at h3
            have h4 := Ln_succ rs (n + 1) X
            rw [e'] at h4
            exact h (by rw [e']; exact leO_anti h4 h3)
          · have ⟨y, hy, hne⟩ : ∃ y, y ∈ q ∧ symW (Ln rs (n + 1)) y ≠ symW (Ln rs n) y := by
              have := Classical.not_forall.mp all
              obtain ⟨y, hy⟩ := this
              exact ⟨y, Classical.not_imp.mp hy⟩
            have hs : ¬ isSg y.cps.toList = true := fun z => hne (by unfold symW; rw [if_pos z, if_pos z])
            obtain ⟨a, ha, k⟩ := valW_part hw hy
            unfold symW at hne ha
            rw [if_neg hs] at ha
            rw [if_neg hs, if_neg hs] at hne
            exact ⟨y, hy, hne, a, ha, k⟩
theorem Ln_chain : ∀ (n : Nat) (X : Str) (w : Wd), Ln rs (n + 1) X ≠ Ln rs n X → Ln rs (n + 1) X = some w →
    ∃ l : List Str, l.length = n + 1 ∧ l.Nodup ∧ (∀ y ∈ l, y ∈ rs.map (·.1)) ∧ ∀ y ∈ l, ∃ m a, m ≤ n ∧ Ln rs (m + 1) y ≠ Ln rs m y ∧ Ln rs (m + 1) y = some a ∧ wle a w
  | 0, X, w, h, hw => by
    obtain ⟨w', e, _, q, hq, _⟩ := Ln_chg rs h
    refine ⟨[X], rfl, by simp, fun y hy => ?_, fun y hy => ?_⟩
    · rw [List.mem_singleton] at hy; subst hy; exact List.mem_map.mpr ⟨_, hq, rfl⟩
    · rw [List.mem_singleton] at hy; subst hy; exact ⟨0, w, Nat.le_refl _, h, hw, wle_refl w⟩
  | n + 1, X, w, h, hw => by
    obtain ⟨w', e, lt, q, hq, hv, hz⟩ := Ln_chg rs h
    rw [hw] at e; cases e
    rcases hz with hz | ⟨y, hy, hne, a, ha, k⟩
    · cases hz
    · obtain ⟨l, l1, l2, l3, l4⟩ := Ln_chain n y a hne ha
      refine ⟨X :: l, by simp [l1], List.nodup_cons.mpr ⟨fun hx => ?_, l2⟩, fun z hz => ?_, fun z hz => ?_⟩
      · obtain ⟨m, b, hm, hc, hb, kb⟩ := l4 X hx
        obtain ⟨c, hc', kc⟩ := Ln_mono rs X (show m + 1 ≤ n + 1 by omega) b hb
        have s := lt c hc'
        have t := slx_wle s kc
        have u : wle b w := wle_tr kb k
        unfold wle at u
        rw [t] at u; cases u
      · rcases List.mem_cons.mp hz with rfl | hz
        · exact List.mem_map.mpr ⟨_, hq, rfl⟩
        · exact l3 z hz
      · rcases List.mem_cons.mp hz with rfl | hz
        · exact ⟨n + 1, w, Nat.le_refl _, h, hw, wle_refl w⟩
        · obtain ⟨m, b, hm, hc, hb, kb⟩ := l4 z hz
          exact ⟨m, b, by omega, hc, hb, wle_tr kb k⟩
end
theorem nodup_len {α : Type} [DecidableEq α] : ∀ {l m : List α}, l.Nodup → (∀ x ∈ l, x ∈ m) → l.length ≤ m.length
  | [], _, _, _ => Nat.zero_le _
  | x :: l, m, h, hs => by
    obtain ⟨h1, h2⟩ := List.nodup_cons.mp h
    have hx : x ∈ m := hs x List.mem_cons_self
    have := nodup_len (l := l) (m := m.erase x) h2 fun y hy => (List.mem_erase_of_ne (fun (e : y = x) => h1 (by rw [← e]; exact hy))).mpr (hs y (.tail _ hy))
    rw [List.length_erase_of_mem hx] at this
    have hp : 0 < m.length := List.length_pos_of_mem hx
    rw [List.length_cons]
    omega
section
variable {rs : List Rl} {NL : List Str}
theorem Ln_fix (hn : ∀ r ∈ rs, r.1 ∈ NL) {n : Nat} (h : NL.length ≤ n) (X : Str) : Ln rs (n + 1) X = Ln rs n X := by
  by_cases e : Ln rs (n + 1) X = Ln rs n X
  · exact e
  · exfalso
    obtain ⟨w, hw, _⟩ := Ln_chg rs e
    obtain ⟨l, l1, l2, l3, _⟩ := Ln_chain rs n X w e hw
    have := nodup_len l2 (m := NL) fun y hy => by
      obtain ⟨r, hr, e⟩ := List.mem_map.mp (l3 y hy)
      rw [← e]; exact hn r hr
    omega
theorem Ln_all (hn : ∀ r ∈ rs, r.1 ∈ NL) {n : Nat} (h : NL.length ≤ n) (X : Str) : Ln rs n X = Ln rs NL.length X := by
  induction n with
  | zero => rw [Nat.le_zero.mp h]
  | succ n ih =>
    rcases Nat.eq_or_lt_of_le h with e | e
    · rw [← e]
    · rw [Ln_fix hn (Nat.le_of_lt_succ e) X, ih (Nat.le_of_lt_succ e)]
end
end LW
namespace LW
open PySem L2 DL
abbrev As := List (Str × Wd)
def getA {α : Type} (f : List (Str × α)) (x : Str) : Option α := (f.find? fun p => decide (p.1 = x)).map (·.2)
def putA {α : Type} (f : List (Str × α)) (x : Str) (w : α) : List (Str × α) := if (f.any fun p => decide (p.1 = x)) = true then f.map (fun p => if p.1 = x then (p.1, w) else p) else f ++ [(x, w)]
section
variable {α : Type}
theorem getA_cons (p : Str × α) (f : List (Str × α)) (x : Str) : getA (p :: f) x = if p.1 = x then some p.2 else getA f x := by
  unfold getA
  rw [List.find?_cons]
  by_cases e : p.1 = x <;> simp [e]
theorem getA_any (f : List (Str × α)) (x : Str) : (f.any fun p => decide (p.1 = x)) = (getA f x).isSome := by
  induction f with
  | nil => rfl
  | cons p f ih =>
    rw [List.any_cons, getA_cons, ih]
    by_cases e : p.1 = x <;> simp [e]
theorem getA_mem {f : List (Str × α)} {x : Str} {w : α} (h : getA f x = some w) : (x, w) ∈ f := by
  induction f with
  | nil => cases h
  | cons p f ih =>
    rw [getA_cons] at h
    by_cases e : p.1 = x
    · rw [if_pos e] at h
      cases h; subst e; exact List.mem_cons_self
    · rw [if_neg e] at h; exact .tail _ (ih h)
theorem getA_none {f : List (Str × α)} {x : Str} : getA f x = none ↔ x ∉ f.map (·.1) := by
  induction f with
  | nil => simp [getA]
  | cons p f ih =>
    rw [getA_cons]
    by_cases e : p.1 = x
    · subst e; simp
    · rw [if_neg e, ih]
      simp [Ne.symm e]
theorem getA_map (f : List (Str × α)) (x y : Str) (w : α) : getA (f.map fun p => if p.1 = x then (p.1, w) else p) y = if y = x then (getA f y).map fun _ => w else getA f y := by
  induction f with
  | nil => simp [getA]
  | cons p f ih =>
    rw [List.map_cons, getA_cons, getA_cons, ih]
    by_cases e : p.1 = x
    · subst e
      by_cases g : p.1 = y
      · subst g; simp
      · simp [g]
    · by_cases g : p.1 = y
      · subst g; simp [e]
      · simp [e, g]
theorem getA_app (f : List (Str × α)) (x y : Str) (w : α) (h : getA f x = none) : getA (f ++ [(x, w)]) y = if y = x then some w else getA f y := by
  induction f with
  | nil =>
    rw [List.nil_append, getA_cons]
    by_cases e : x = y
    · subst e; simp
    · simp [e, Ne.symm e]
  | cons p f ih =>
    rw [getA_cons] at h
    by_cases e : p.1 = x
    · rw [if_pos e] at h; cases h
    · rw [if_neg e] at h
      rw [List.cons_append, getA_cons, getA_cons, ih h]
      by_cases g : p.1 = y
      · subst g; simp [e]
      · simp [g]
theorem getA_put (f : List (Str × α)) (x y : Str) (w : α) : getA (putA f x w) y = if y = x then some w else getA f y := by
  unfold putA
  rw [getA_any]
  cases h : getA f x with
  | none => rw [if_neg (by simp), getA_app f x y w h]
  | some v =>
    rw [if_pos (show (some v).isSome = true from rfl), getA_map]
    by_cases e : y = x
    · subst e; rw [if_pos rfl, if_pos rfl, h]; rfl
    · rw [if_neg e, if_neg e]
theorem putA_keys (f : List (Str × α)) (x : Str) (w : α) : (putA f x w).map (·.1) = if x ∈ f.map (·.1) then f.map (·.1) else f.map (·.1) ++ [x] := by
  unfold putA
  rw [getA_any]
  cases h : getA f x with
  | none =>
    rw [if_neg (by simp), if_neg (getA_none.mp h)]
    simp
  | some v =>
    have hx : x ∈ f.map (·.1) := List.mem_map.mpr ⟨_, getA_mem h, rfl⟩
    rw [if_pos (show (some v).isSome = true from rfl), if_pos hx, List.map_map]
    apply List.map_congr_left
    intro p _
    show (if p.1 = x then (p.1, w) else p).1 = p.1
    split <;> rfl
end
def better (f : As) (x : Str) (w : Wd) : Bool := match getA f x with
  | none => true
  | some v => slx w v
def stepF (s : As × Bool) (r : Rl) : As × Bool := match valW (getA s.1) r.2 with
  | none => s
  | some w => if better s.1 r.1 w = true then (putA s.1 r.1 w, true) else s
def passF (rs : List Rl) (f : As) : As × Bool := rs.foldl stepF (f, false)
def iterF (rs : List Rl) : Nat → As
  | 0 => []
  | n + 1 => (passF rs (iterF rs n)).1
section
variable {rs : List Rl}
theorem step_le (s : As × Bool) (r : Rl) (x : Str) : leO (getA (stepF s r).1 x) (getA s.1 x) := by
  unfold stepF
  split
  · exact leO_refl _
  · rename_i w hw
    split
    · rename_i hb
      show leO (getA (putA s.1 r.1 w) x) _
      rw [getA_put]
      split
      · rename_i e
        subst e
        intro v hv
        unfold better at hb
        rw [hv] at hb
        exact ⟨w, rfl, wle_of hb⟩
      · exact leO_refl _
    · exact leO_refl _
theorem step_rule (s : As × Bool) (r : Rl) : leO (getA (stepF s r).1 r.1) (valW (getA s.1) r.2) := by
  unfold stepF
  split
  · rename_i hw; rw [hw]; exact leO_none _
  · rename_i w hw
    rw [hw]
    split
    · show leO (getA (putA s.1 r.1 w) r.1) _
      rw [getA_put, if_pos rfl]
      exact leO_refl _
    · rename_i hb
      intro v hv
      cases hv
      unfold better at hb
      cases hg : getA s.1 r.1 with
      | none => rw [hg] at hb; exact absurd rfl hb
      | some u => rw [hg] at hb; exact ⟨u, rfl, by unfold wle; simpa using hb⟩
theorem foldF_le (x : Str) : ∀ (l : List Rl) (s : As × Bool), leO (getA (l.foldl stepF s).1 x) (getA s.1 x)
  | [], s => leO_refl _
  | r :: l, s => by rw [List.foldl_cons]; exact leO_tr (foldF_le x l _) (step_le s r x)
theorem foldF_rule {X : Str} {q : List Str} {g : Str → Option Wd} : ∀ (l : List Rl) (s : As × Bool), (∀ x, leO (getA s.1 x) (g x)) → (X, q) ∈ l → leO (getA (l.foldl stepF s).1 X) (valW g q)
  | r :: l, s, h, hm => by
    rw [List.foldl_cons]
    rcases List.mem_cons.mp hm with rfl | hm
    · exact leO_tr (foldF_le X l _) (leO_tr (step_rule s (X, q)) (valW_mono h q))
    · exact foldF_rule l _ (fun x => leO_tr (step_le s r x) (h x)) hm
theorem iter_le : ∀ (n : Nat) (X : Str), leO (getA (iterF rs n) X) (Ln rs n X)
  | 0, X => leO_none _
  | n + 1, X => by
    have ih := iter_le n
    rcases fold_or (X := X) (f := Ln rs n) rs (Ln rs n X) with e | ⟨q, hq, e⟩
    · rw [show Ln rs (n + 1) X = Ln rs n X from e]
      exact leO_tr (foldF_le X rs _) (ih X)
    · rw [show Ln rs (n + 1) X = valW (Ln rs n) q from e]
      exact foldF_rule rs _ ih hq
variable {NL : List Str}
theorem fix_rule (hn : ∀ r ∈ rs, r.1 ∈ NL) {X : Str} {q : List Str} (h : (X, q) ∈ rs) : leO (Ln rs NL.length X) (valW (Ln rs NL.length) q) := by
  have := Ln_rule rs NL.length h
  rw [Ln_fix hn (Nat.le_refl _)] at this
  exact this
theorem step_sound (hn : ∀ r ∈ rs, r.1 ∈ NL) {s : As × Bool} {r : Rl} (hr : r ∈ rs) (h : ∀ x, leO (Ln rs NL.length x) (getA s.1 x)) (x : Str) : leO (Ln rs NL.length x) (getA (stepF s r).1 x) := by
  unfold stepF
  split
  · exact h x
  · rename_i w hw
    split
    · show leO _ (getA (putA s.1 r.1 w) x)
      rw [getA_put]
      split
      · rename_i e
        subst e
        rw [← hw]
        exact leO_tr (fix_rule hn (show (r.1, r.2) ∈ rs from hr)) (valW_mono h r.2)
      · exact h x
    · exact h x
theorem fold_sound (hn : ∀ r ∈ rs, r.1 ∈ NL) : ∀ (l : List Rl) (s : As × Bool), (∀ r ∈ l, r ∈ rs) → (∀ x, leO (Ln rs NL.length x) (getA s.1 x)) → ∀ x, leO (Ln rs NL.length x) (getA (l.foldl stepF s).1 x)
  | [], s, _, h => h
  | r :: l, s, hl, h => by
    rw [List.foldl_cons]
    exact fold_sound hn l _ (fun q hq => hl q (.tail _ hq)) (step_sound hn (hl r List.mem_cons_self) h)
theorem iter_sound (hn : ∀ r ∈ rs, r.1 ∈ NL) : ∀ (n : Nat) (x : Str), leO (Ln rs NL.length x) (getA (iterF rs n) x)
  | 0, x => fun v hv => by cases hv
  | n + 1, x => fold_sound hn rs _ (fun _ h => h) (iter_sound hn n) x
theorem iter_eq (hn : ∀ r ∈ rs, r.1 ∈ NL) {n : Nat} (h : NL.length ≤ n) (x : Str) : getA (iterF rs n) x = Ln rs NL.length x := by
  have a := iter_le (rs := rs) n x
  rw [Ln_all hn h] at a
  exact leO_anti a (iter_sound hn n x)
def least (rs : List Rl) : As := iterF rs rs.length
structure LenOk (rs : List Rl) (b : Nat) (f : As) : Prop where
  nd : (f.map (·.1)).Nodup
  sub : ∀ x ∈ f.map (·.1), x ∈ rs.map (·.1)
  len : ∀ (j : Nat) (p : Str × Wd), f[j]? = some p → p.2.length ≤ b ^ (j + 1)
theorem LenOk.get {b : Nat} {f : As} (h : LenOk rs b f) (b1 : 1 ≤ b) {x : Str} {w : Wd} (e : getA f x = some w) : w.length ≤ b ^ f.length := by
  obtain ⟨j, hj⟩ := List.mem_iff_getElem?.mp (getA_mem e)
  have := h.len j _ hj
  have hl : j < f.length := (List.getElem?_eq_some_iff.mp hj).1
  exact Nat.le_trans this (Nat.pow_le_pow_right b1 hl)
theorem valW_len {f : Str → Option Wd} {B : Nat} (B1 : 1 ≤ B) (h : ∀ x w, f x = some w → w.length ≤ B) : ∀ (q : List Str) (w : Wd), valW f q = some w → w.length ≤ q.length * B
  | [], w, e => by cases e; simp
  | x :: r, w, e => by
    obtain ⟨u, v, hu, hv, rfl⟩ := valW_cons e
    have h2 := valW_len B1 h r v hv
    have h3 : u.length ≤ B := by
      unfold symW at hu
      split at hu
      · cases hu; simpa using B1
      · exact h x u hu
    rw [List.length_append, List.length_cons, Nat.succ_mul]
    omega
theorem LenOk.put {b : Nat} {f : As} (h : LenOk rs b f) (b1 : 1 ≤ b) {r : Rl} (hr : r ∈ rs) (hb : r.2.length ≤ b) {w : Wd} (hw : valW (getA f) r.2 = some w) (hbt : better f r.1 w = true) : LenOk rs b (putA f r.1 w) := by
  have hB : 1 ≤ b ^ f.length := Nat.pow_pos b1
  have hwl : w.length ≤ b ^ (f.length + 1) := by
    have := valW_len hB (fun x v e => h.get b1 e) r.2 w hw
    calc w.length ≤ r.2.length * b ^ f.length := this
      _ ≤ b * b ^ f.length := Nat.mul_le_mul_right _ hb
      _ = b ^ (f.length + 1) := by rw [Nat.pow_succ, Nat.mul_comm]
  have hk := putA_keys f r.1 w
  refine ⟨?_, ?_, ?_⟩
  · rw [hk]
    split
    · exact h.nd
    · rename_i hx
      exact List.nodup_append.mpr ⟨h.nd, by simp, fun a ha c hc => by rw [List.mem_singleton] at hc; subst hc; exact fun e => hx (by rw [← e]; exact ha)⟩
  · intro x hx
    rw [hk] at hx
    split at hx
    · exact h.sub x hx
    · rcases List.mem_append.mp hx with hx | hx
      · exact h.sub x hx
      · rw [List.mem_singleton] at hx; subst hx; exact List.mem_map.mpr ⟨r, hr, rfl⟩
  · intro j p hp
    unfold putA at hp
    rw [getA_any] at hp
    cases hg : getA f r.1 with
    | none =>
      rw [hg, if_neg (by simp)] at hp
      rw [List.getElem?_append] at hp
      split at hp
      · exact h.len j p hp
      · rename_i hj
        have ej : j - f.length = 0 := by
          have := (List.getElem?_eq_some_iff.mp hp).1
          simp at this; omega
        rw [ej] at hp
        have e2 : j = f.length := by omega
        simp at hp
        subst hp; subst e2
        exact hwl
    | some v =>
      rw [hg, if_pos (show (some v).isSome = true from rfl), List.getElem?_map] at hp
      cases hj : f[j]? with
      | none => rw [hj] at hp; cases hp
      | some q =>
        rw [hj] at hp
        have e : (if q.1 = r.1 then (q.1, w) else q) = p := by injection hp
        by_cases hq : q.1 = r.1
        · rw [if_pos hq] at e
          subst e
          have hqv : q.2 = v := by
            -- keys are told once
            have hm : (q.1, q.2) ∈ f := List.mem_of_getElem? hj
            have : ∀ {f : As}, (f.map (·.1)).Nodup → ∀ {x : Str} {a : Wd}, (x, a) ∈ f → getA f x = some a := by
              intro f
              induction f with
              | nil => intro _ x a h; cases h
              | cons p f ih =>
                intro nd x a hm
                rw [List.map_cons] at nd
                obtain ⟨n1, n2⟩ := List.nodup_cons.mp nd
                rw [getA_cons]
                rcases List.mem_cons.mp hm with hm | hm
                · rw [← hm]; simp
                · have hx : x ∈ f.map (·.1) := List.mem_map.mpr ⟨_, hm, rfl⟩
                  rw [if_neg (fun e => n1 (by rw [e]; exact hx))]
                  exact ih n2 hm
            have h3 := this h.nd hm
            rw [hq, hg] at h3
            exact (Option.some.inj h3).symm
          have h4 := h.len j q hj
          rw [hqv] at h4
          unfold better at hbt
          rw [hg] at hbt
          exact Nat.le_trans (wle_len (wle_of hbt)) h4
        · rw [if_neg hq] at e
          subst e
          exact h.len j q hj
theorem LenOk.step {b : Nat} {s : As × Bool} (h : LenOk rs b s.1) (b1 : 1 ≤ b) {r : Rl} (hr : r ∈ rs) (hb : r.2.length ≤ b) : LenOk rs b (stepF s r).1 := by
  unfold stepF
  split
  · exact h
  · rename_i w hw
    split
    · rename_i hbt; exact h.put b1 hr hb hw hbt
    · exact h
theorem LenOk.card {b : Nat} {f : As} (h : LenOk rs b f) {NL : List Str} (hn : ∀ r ∈ rs, r.1 ∈ NL) : f.length ≤ NL.length := by
  have := nodup_len h.nd (m := NL) fun x hx => by
    obtain ⟨r, hr, e⟩ := List.mem_map.mp (h.sub x hx)
    rw [← e]; exact hn r hr
  rwa [List.length_map] at this
theorem LenOk.nil {b : Nat} : LenOk rs b [] := ⟨by simp, by simp, fun j p e => by simp at e⟩
end
end LW
namespace LW
open PySem L2 DL
def okS (u : Wd) : Prop := ∀ x ∈ u, PyData.strOk x = true
def okW (x : Str) : Prop := PyData.strOk x = true ∧ x.cps.toList.length ≤ 16777216
abbrev sgB (x : Str) : Bool := isSg x.cps.toList
abbrev nmB (x : Str) : Bool := isNm x.cps.toList
def kvsD {α : Type} (g : α → D) (f : List (Str × α)) : List (D × D) := f.map fun p => (.str p.1, g p.2)
theorem kvsD_length {α : Type} (g : α → D) (f : List (Str × α)) : (kvsD g f).length = f.length := by unfold kvsD; simp
end LW
namespace LW
open PySem L2 DL
def tW (u : Wd) : D := .tup (stD u)
def rD (r : Rl) : D := .tup [.str r.1, .tup (stD r.2)]
structure RuOk (b : Nat) (r : Rl) : Prop where
  nm : okW r.1
  sy : ∀ x ∈ r.2, okW x
  len : r.2.length ≤ b
structure Gd (rs : List Rl) (b N : Nat) : Prop where
  ru : ∀ r ∈ rs, RuOk b r
  b1 : 1 ≤ b
  NL : ∃ NL : List Str, (∀ r ∈ rs, r.1 ∈ NL) ∧ NL.length ≤ N
  big : b ^ (N + 1) ≤ 1000000
  R : rs.length ≤ 100000
def OkF (f : As) : Prop := ∀ x w, getA f x = some w → okS w
theorem valW_ok {f : As} (h : OkF f) : ∀ {q : List Str} {w : Wd}, (∀ x ∈ q, okW x) → valW (getA f) q = some w → okS w
  | [], w, _, e => by cases e; intro x hx; cases hx
  | x :: r, w, hq, e => by
    obtain ⟨u, v, hu, hv, rfl⟩ := valW_cons e
    have h2 := valW_ok h (fun y hy => hq y (.tail _ hy)) hv
    intro y hy
    rcases List.mem_append.mp hy with hy | hy
    · unfold symW at hu
      split at hu
      · cases hu
        rw [List.mem_singleton] at hy; subst hy
        exact (hq y List.mem_cons_self).1
      · exact h x u hu y hy
    · exact h2 y hy
theorem OkF.step {s : As × Bool} {r : Rl} (h : OkF s.1) (hr : ∀ x ∈ r.2, okW x) : OkF (stepF s r).1 := by
  unfold stepF
  split
  · exact h
  · rename_i w hw
    split
    · intro x v e
      have e : getA (putA s.1 r.1 w) x = some v := e
      rw [getA_put] at e
      split at e
      · cases e; exact valW_ok h hr hw
      · exact h x v e
    · exact h
structure St (rs : List Rl) (b N : Nat) (f : As) : Prop where
  len : LenOk rs b f
  ok : OkF f
theorem St.step {rs : List Rl} {b N : Nat} (g : Gd rs b N) {s : As × Bool} (h : St rs b N s.1) {r : Rl} (hr : r ∈ rs) : St rs b N (stepF s r).1 :=
  ⟨h.len.step g.b1 hr (g.ru r hr).len, h.ok.step (g.ru r hr).sy⟩
theorem St.nil {rs : List Rl} {b N : Nat} : St rs b N [] := ⟨.nil, fun x w e => by cases e⟩
theorem St.fold {rs : List Rl} {b N : Nat} (g : Gd rs b N) : ∀ (l : List Rl) (s : As × Bool), (∀ r ∈ l, r ∈ rs) → St rs b N s.1 → St rs b N (l.foldl stepF s).1
  | [], s, _, h => h
  | r :: l, s, hl, h => by
    rw [List.foldl_cons]
    exact St.fold g l _ (fun q hq => hl q (.tail _ hq)) (h.step g (hl r List.mem_cons_self))
theorem St.iter {rs : List Rl} {b N : Nat} (g : Gd rs b N) : ∀ n, St rs b N (iterF rs n)
  | 0 => .nil
  | n + 1 => St.fold g rs _ (fun _ h => h) (St.iter g n)
theorem St.told {rs : List Rl} {b N : Nat} (g : Gd rs b N) {f : As} (h : St rs b N f) {x : Str} {w : Wd} (hw : getA f x = some w) : w.length ≤ 1000000 := by
  obtain ⟨NL, h1, h2⟩ := g.NL
  have hc : f.length ≤ N := Nat.le_trans (h.len.card h1) h2
  exact Nat.le_trans (h.len.get g.b1 hw) (Nat.le_trans (Nat.pow_le_pow_right g.b1 (by omega)) g.big)
theorem St.size {rs : List Rl} {b N : Nat} (g : Gd rs b N) {f : As} (h : St rs b N f) : f.length ≤ 100000 := by
  have := nodup_len h.len.nd h.len.sub
  rw [List.length_map, List.length_map] at this
  have := g.R
  omega
end LW
namespace LW
open PySem L2 DL
end LW
namespace LW
open PySem L2 DL
def symB (x : Str) : Prop := sgB x = true ∨ nmB x = true
theorem isX_head {first l : List Nat} (h : isX first l = true) : ∃ c r, l = c :: r ∧ c ∈ first := by
  unfold isX at h
  cases l with
  | nil => simp at h
  | cons c r => simp at h; exact ⟨c, r, rfl, h.2⟩
theorem sg_nm {x : Str} (h : sgB x = true) : nmB x = false := by
  obtain ⟨c, r, e, hc⟩ := isX_head h
  have hn : ∀ c ∈ cLow, c ∉ cUpp := by decide
  cases hq : nmB x with
  | false => rfl
  | true =>
    obtain ⟨c', r', e', hc'⟩ := isX_head hq
    rw [e] at e'
    cases e'
    exact absurd hc' (hn c hc)
def lW (u : Wd) : D := .lst (stD u)
def rL (r : Rl) : D := .lst [.str r.1, .lst (stD r.2)]
theorem St.lt {rs : List Rl} {b N : Nat} (g : Gd rs b N) {f : As} (h : St rs b N f) (w : Wd → D) : (kvsD w f).length < sizeLine := by
  rw [kvsD_length]
  have := h.size g
  exact Nat.lt_of_lt_of_le (by omega : f.length < 100001) (size_big (by decide))
end LW
namespace LW
open PySem L2 DL
def rchX (X n : Str) (fd : List Str) (x : Str) : List Str := if n = X ∧ nmB x = true ∧ x ∉ fd then fd ++ [x] else fd
def rchR (X : Str) (fd : List Str) (r : Rl) : List Str := r.2.foldl (rchX X r.1) fd
def rchP (rs : List Rl) (X : Str) (fd : List Str) : List Str := rs.foldl (rchR X) fd
def fr (rs : List Rl) (s : Str) : Nat → List Str
  | 0 => [s]
  | i + 1 => match (fr rs s i)[i]? with
    | some X => rchP rs X (fr rs s i)
    | none => fr rs s i
structure Fd (m : List Str) (fd : List Str) : Prop where
  nd : fd.Nodup
  sub : ∀ x ∈ fd, x ∈ m
theorem Fd.len {m fd : List Str} (h : Fd m fd) : fd.length ≤ m.length := nodup_len h.nd h.sub
theorem rchX_fd {m fd : List Str} {X n x : Str} (h : Fd m fd) (hx : x ∈ m) : Fd m (rchX X n fd x) := by
  unfold rchX
  split
  · rename_i c
    refine ⟨List.nodup_append.mpr ⟨h.nd, by simp, fun a ha c' hc => ?_⟩, fun y hy => ?_⟩
    · rw [List.mem_singleton] at hc; subst hc; exact fun e => c.2.2 (by rw [← e]; exact ha)
    · rcases List.mem_append.mp hy with hy | hy
      · exact h.sub y hy
      · rw [List.mem_singleton] at hy; subst hy; exact hx
  · exact h
theorem rchX_pre (X n : Str) (fd : List Str) (x : Str) : ∃ t, rchX X n fd x = fd ++ t := by
  unfold rchX
  split
  · exact ⟨[x], rfl⟩
  · exact ⟨[], by simp⟩
theorem rchR_fd {m : List Str} {X n : Str} : ∀ (q : List Str) (fd : List Str), Fd m fd → (∀ x ∈ q, x ∈ m) → Fd m (q.foldl (rchX X n) fd) ∧ ∃ t, q.foldl (rchX X n) fd = fd ++ t
  | [], fd, h, _ => ⟨h, [], by simp⟩
  | x :: q, fd, h, hq => by
    rw [List.foldl_cons]
    obtain ⟨t, e⟩ := rchX_pre X n fd x
    obtain ⟨h1, t', e'⟩ := rchR_fd (X := X) (n := n) q (rchX X n fd x) (rchX_fd h (hq x List.mem_cons_self)) fun y hy => hq y (.tail _ hy)
    exact ⟨h1, t ++ t', by rw [e', e, List.append_assoc]⟩
theorem rchP_fd {m : List Str} {X : Str} : ∀ (rs : List Rl) (fd : List Str), Fd m fd → (∀ r ∈ rs, ∀ x ∈ r.2, x ∈ m) → Fd m (rchP rs X fd) ∧ ∃ t, rchP rs X fd = fd ++ t
  | [], fd, h, _ => ⟨h, [], by simp [rchP]⟩
  | r :: rs, fd, h, hq => by
    obtain ⟨h1, t, e⟩ := rchR_fd (X := X) (n := r.1) r.2 fd h (hq r List.mem_cons_self)
    obtain ⟨h2, t', e'⟩ := rchP_fd (X := X) rs (rchR X fd r) h1 fun y hy => hq y (.tail _ hy)
    refine ⟨h2, t ++ t', ?_⟩
    show rchP rs X (rchR X fd r) = _
    rw [e', show rchR X fd r = fd ++ t from e, List.append_assoc]
def allS (rs : List Rl) (s : Str) : List Str := s :: rs.flatMap (·.2)
theorem allS_in {rs : List Rl} {s : Str} : ∀ r ∈ rs, ∀ x ∈ r.2, x ∈ allS rs s := fun r hr x hx => .tail _ (List.mem_flatMap.mpr ⟨r, hr, hx⟩)
theorem fr_fd (rs : List Rl) (s : Str) : ∀ i, Fd (allS rs s) (fr rs s i)
  | 0 => ⟨by simp [fr], fun x hx => by
    have hx : x ∈ [s] := hx
    rw [List.mem_singleton] at hx; subst hx; exact List.mem_cons_self⟩
  | i + 1 => by
    unfold fr
    split
    · exact (rchP_fd rs _ (fr_fd rs s i) allS_in).1
    · exact fr_fd rs s i
def reach (rs : List Rl) (s : Str) : List Str := fr rs s (allS rs s).length
theorem fr_succ {rs : List Rl} {s X : Str} {i : Nat} (h : (fr rs s i)[i]? = some X) : fr rs s (i + 1) = rchP rs X (fr rs s i) := by
  rw [fr, h]
end LW
namespace LW
open PySem L2 DL
def lead (fs ls : As) : List Str → List Str → Option (List Str)
  | [], acc => some (acc ++ [("$" : Str)])
  | x :: r, acc => if sgB x = true then some (acc ++ [x]) else match getA fs x, getA ls x with
    | some f, some w => if w.isEmpty = false then some (acc ++ f) else lead fs ls r (acc ++ f)
    | _, _ => none
def Told (fs ls : As) (q : List Str) : Prop := ∀ x ∈ q, sgB x = false → (∃ f, getA fs x = some f) ∧ ∃ w, getA ls x = some w
theorem lead_some {fs ls : As} : ∀ {q : List Str} (acc : List Str), Told fs ls q → ∃ l, lead fs ls q acc = some l
  | [], acc, _ => ⟨_, rfl⟩
  | x :: q, acc, h => by
    unfold lead
    by_cases hs : sgB x = true
    · rw [if_pos hs]; exact ⟨_, rfl⟩
    · rw [if_neg hs]
      obtain ⟨⟨f, hf⟩, w, hw⟩ := h x List.mem_cons_self (by simpa using hs)
      rw [hf, hw]
      dsimp only
      split
      · exact ⟨_, rfl⟩
      · exact lead_some _ fun y hy => h y (.tail _ hy)
theorem lead_mem {fs ls : As} {m : List Str} (hf : ∀ x f, getA fs x = some f → ∀ y ∈ f, y ∈ m) : ∀ {q acc l : List Str}, (∀ x ∈ q, x ∈ m) → (∀ x ∈ acc, x ∈ m) → lead fs ls q acc = some l → ∀ y ∈ l, y ∈ m ∨ y = "$"
  | [], acc, l, _, ha, h => by
    cases h
    intro y hy
    rcases List.mem_append.mp hy with hy | hy
    · exact .inl (ha y hy)
    · rw [List.mem_singleton] at hy; exact .inr hy
  | x :: q, acc, l, hq, ha, h => by
    unfold lead at h
    by_cases hs : sgB x = true
    · rw [if_pos hs] at h
      cases h
      intro y hy
      rcases List.mem_append.mp hy with hy | hy
      · exact .inl (ha y hy)
      · rw [List.mem_singleton] at hy; subst hy; exact .inl (hq _ List.mem_cons_self)
    · rw [if_neg hs] at h
      cases hg : getA fs x with
      | none => rw [hg] at h; cases h
      | some f =>
        cases hw : getA ls x with
        | none => rw [hg, hw] at h; cases h
        | some w =>
          rw [hg, hw] at h
          dsimp only at h
          have ha2 : ∀ y ∈ acc ++ f, y ∈ m := fun y hy => (List.mem_append.mp hy).elim (ha y) (hf x f hg y)
          split at h
          · cases h; exact fun y hy => .inl (ha2 y hy)
          · exact lead_mem hf (fun y hy => hq y (.tail _ hy)) ha2 h
def addF (n : Str) (s : As × Bool) (x : Str) : As × Bool := match getA s.1 n with
  | some f => if x ≠ "$" ∧ x ∉ f then (putA s.1 n (f ++ [x]), true) else s
  | none => s
def stepG (ls : As) (s : As × Bool) (r : Rl) : As × Bool := match lead s.1 ls r.2 [] with
  | some l => l.foldl (addF r.1) s
  | none => s
def passG (rs : List Rl) (ls fs : As) : As × Bool := rs.foldl (stepG ls) (fs, false)
def iterG (rs : List Rl) (ls : As) : Nat → As
  | 0 => ls.map fun p => (p.1, [])
  | i + 1 => (passG rs ls (iterG rs ls i)).1
def mu (fs : As) : Nat := (fs.map fun p => p.2.length).sum
theorem mu_put : ∀ (fs : As) (n : Str) (f : List Str) (x : Str), (fs.map (·.1)).Nodup → getA fs n = some f → mu (putA fs n (f ++ [x])) = mu fs + 1
  | [], n, f, x, _, h => by cases h
  | p :: fs, n, f, x, nd, h => by
    rw [List.map_cons] at nd
    obtain ⟨n1, n2⟩ := List.nodup_cons.mp nd
    have hp : putA (p :: fs) n (f ++ [x]) = (p :: fs).map (fun p => if p.1 = n then (p.1, f ++ [x]) else p) := by
      unfold putA
      rw [getA_any, h]; rfl
    rw [hp]
    rw [getA_cons] at h
    by_cases e : p.1 = n
    · rw [if_pos e] at h
      have e2 : fs.map (fun p => if p.1 = n then (p.1, f ++ [x]) else p) = fs := by
        have : ∀ q ∈ fs, (if q.1 = n then (q.1, f ++ [x]) else q) = q := fun q hq => by
          rw [if_neg (fun z => n1 (by rw [e, ← z]; exact List.mem_map.mpr ⟨q, hq, rfl⟩))]
        conv => rhs; rw [← List.map_id fs]
        exact List.map_congr_left this
      rw [List.map_cons, if_pos e, e2]
      unfold mu
      rw [List.map_cons, List.sum_cons, List.map_cons, List.sum_cons]
      have : p.2 = f := Option.some.inj h
      rw [this]; simp; omega
    · rw [if_neg e] at h
      have ih := mu_put fs n f x n2 h
      have hp2 : putA fs n (f ++ [x]) = fs.map (fun p => if p.1 = n then (p.1, f ++ [x]) else p) := by
        unfold putA
        rw [getA_any, h]; rfl
      rw [hp2] at ih
      rw [List.map_cons, if_neg e]
      unfold mu at *
      rw [List.map_cons, List.sum_cons, List.map_cons, List.sum_cons, ih]
      omega
structure Sg (m : List Str) (ls fs : As) : Prop where
  keys : fs.map (·.1) = ls.map (·.1)
  nd : ∀ x f, getA fs x = some f → f.Nodup
  sub : ∀ x f, getA fs x = some f → ∀ y ∈ f, y ∈ m
theorem Sg.len {m : List Str} {ls fs : As} (h : Sg m ls fs) (x : Str) (f : List Str) (e : getA fs x = some f) : f.length ≤ m.length := nodup_len (h.nd x f e) (h.sub x f e)
theorem keys_put {fs : As} {n : Str} {f : List Str} (w : List Str) (h : getA fs n = some f) : (putA fs n w).map (·.1) = fs.map (·.1) := by
  rw [putA_keys, if_pos (List.mem_map.mpr ⟨_, getA_mem h, rfl⟩)]
theorem Sg.add {m : List Str} {ls : As} {s : As × Bool} (h : Sg m ls s.1) (nl : (ls.map (·.1)).Nodup) {n x : Str} (hx : x ∈ m ∨ x = "$") : Sg m ls (addF n s x).1 ∧ ((addF n s x = s) ∨ ((addF n s x).2 = true ∧ mu (addF n s x).1 = mu s.1 + 1)) := by
  unfold addF
  cases hg : getA s.1 n with
  | none => exact ⟨h, .inl rfl⟩
  | some f =>
    dsimp only
    split
    · rename_i c
      refine ⟨⟨?_, fun y g e => ?_, fun y g e z hz => ?_⟩, .inr ⟨rfl, mu_put s.1 n f x (by rw [h.keys]; exact nl) hg⟩⟩
      · show (putA s.1 n (f ++ [x])).map (·.1) = _
        rw [keys_put _ hg]; exact h.keys
      · have e : getA (putA s.1 n (f ++ [x])) y = some g := e
        rw [getA_put] at e
        split at e
        · cases e
          exact List.nodup_append.mpr ⟨h.nd n f hg, by simp, fun a ha b hb => by rw [List.mem_singleton] at hb; subst hb; exact fun z => c.2 (by rw [← z]; exact ha)⟩
        · exact h.nd y g e
      · have e : getA (putA s.1 n (f ++ [x])) y = some g := e
        rw [getA_put] at e
        split at e
        · cases e
          rcases List.mem_append.mp hz with hz | hz
          · exact h.sub n f hg z hz
          · rw [List.mem_singleton] at hz
            subst hz
            exact hx.elim id fun k => absurd k c.1
        · exact h.sub y g e z hz
    · exact ⟨h, .inl rfl⟩
theorem Sg.adds {m : List Str} {ls : As} (nl : (ls.map (·.1)).Nodup) {n : Str} : ∀ (l : List Str) (s : As × Bool), Sg m ls s.1 → (∀ x ∈ l, x ∈ m ∨ x = "$") → Sg m ls (l.foldl (addF n) s).1 ∧ ((l.foldl (addF n) s = s) ∨ ((l.foldl (addF n) s).2 = true ∧ mu s.1 < mu (l.foldl (addF n) s).1))
  | [], s, h, _ => ⟨h, .inl rfl⟩
  | x :: l, s, h, hl => by
    rw [List.foldl_cons]
    obtain ⟨h1, h2⟩ := h.add nl (n := n) (hl x List.mem_cons_self)
    obtain ⟨h3, h4⟩ := Sg.adds nl (n := n) l (addF n s x) h1 fun y hy => hl y (.tail _ hy)
    refine ⟨h3, ?_⟩
    rcases h4 with h4 | ⟨h4, h5⟩
    · rw [h4]
      rcases h2 with h2 | ⟨h2, h6⟩
      · exact .inl h2
      · exact .inr ⟨h2, by omega⟩
    · rcases h2 with h2 | ⟨h2, h6⟩
      · rw [h2] at h4 h5 ⊢; exact .inr ⟨h4, h5⟩
      · exact .inr ⟨h4, by omega⟩
theorem Sg.step {m : List Str} {ls : As} (nl : (ls.map (·.1)).Nodup) {s : As × Bool} (h : Sg m ls s.1) {r : Rl} (hr : ∀ x ∈ r.2, x ∈ m) : Sg m ls (stepG ls s r).1 ∧ ((stepG ls s r = s) ∨ ((stepG ls s r).2 = true ∧ mu s.1 < mu (stepG ls s r).1)) := by
  unfold stepG
  cases hl : lead s.1 ls r.2 [] with
  | none => exact ⟨h, .inl rfl⟩
  | some l => exact Sg.adds nl l s h (lead_mem h.sub hr (fun x hx => by cases hx) hl)
abbrev allR (rs : List Rl) : List Str := rs.flatMap (·.2)
theorem allR_in {rs : List Rl} : ∀ r ∈ rs, ∀ x ∈ r.2, x ∈ allR rs := fun r hr x hx => List.mem_flatMap.mpr ⟨r, hr, hx⟩
def capG (rs : List Rl) (ls : As) : Nat := ls.length * (allR rs).length + 1
def firsts (rs : List Rl) (ls : As) : As := iterG rs ls (capG rs ls)
end LW
namespace LW
open PySem L2 DL
def TR (rs : List Rl) (ls : As) : Prop := ∀ r ∈ rs, (∃ w, getA ls r.1 = some w) ∧ ∀ x ∈ r.2, sgB x = false → ∃ w, getA ls x = some w
theorem key_some {fs ls : As} (hk : fs.map (·.1) = ls.map (·.1)) {x : Str} (h : ∃ w, getA ls x = some w) : ∃ f, getA fs x = some f := by
  cases hg : getA fs x with
  | some f => exact ⟨f, rfl⟩
  | none =>
    obtain ⟨w, hw⟩ := h
    have := getA_none.mp hg
    rw [hk] at this
    exact absurd (List.mem_map.mpr ⟨_, getA_mem hw, rfl⟩) this
end LW
namespace LW
open PySem L2 DL
def isRule (r : Rl) : Bool := nmB r.1 && decide (r.2.length ≤ 4) && r.2.all fun x => nmB x || sgB x
end LW
namespace LW
open PySem L2 DL
structure OkR (r : Rl) : Prop where
  nm : okW r.1
  sy : ∀ x ∈ r.2, okW x
  len : r.2.length ≤ 1000000
def wordsR (rs : List Rl) : List Str := rs.map (·.1) ++ allR rs
end LW
namespace LW
open PySem L2 DL
def namesG (rs : List Rl) : List Str := DS.sortU ((wordsR rs).filter nmB)
def signsG (rs : List Rl) : List Str := DS.sortU ((wordsR rs).filter sgB)
def startG (rs : List Rl) : Str := match rs with
  | r :: _ => r.1
  | [] => ""
abbrev gFs (rs : List Rl) : List (Str × D) := [("rules", .tup (rs.map rD)), ("names", .tup (stD (namesG rs))), ("signs", .tup (stD (signsG rs))), ("start", .str (startG rs)), ("least", .dct false true (kvsD tW (least rs))), ("firsts", .dct false true (kvsD lW (firsts rs (least rs))))]
theorem mem_names {rs : List Rl} {x : Str} : x ∈ namesG rs ↔ x ∈ wordsR rs ∧ nmB x = true := by
  unfold namesG
  rw [DS.mem_sortU, List.mem_filter]
structure Gok (rs : List Rl) : Prop where
  ne : rs ≠ []
  ok : ∀ r ∈ rs, OkR r
  ru : ∀ r ∈ rs, isRule r = true
  r12 : rs.length ≤ 12
  n6 : (namesG rs).length ≤ 6
  s6 : (signsG rs).length ≤ 6
theorem Gok.len {rs : List Rl} (g : Gok rs) : ∀ r ∈ rs, r.2.length ≤ 4 := fun r hr => by
  have := g.ru r hr
  unfold isRule at this
  simp at this
  exact this.1.2
theorem Gok.nm {rs : List Rl} (g : Gok rs) : ∀ r ∈ rs, nmB r.1 = true := fun r hr => by
  have := g.ru r hr
  unfold isRule at this
  simp only [Bool.and_eq_true] at this
  exact this.1.1
theorem Gok.sy {rs : List Rl} (g : Gok rs) : ∀ r ∈ rs, ∀ x ∈ r.2, symB x := fun r hr x hx => by
  have := g.ru r hr
  unfold isRule at this
  simp only [Bool.and_eq_true, List.all_eq_true] at this
  have := this.2 x hx
  simp only [Bool.or_eq_true] at this
  exact this.elim .inr .inl
theorem Gok.ruok {rs : List Rl} (g : Gok rs) : ∀ r ∈ rs, RuOk 4 r := fun r hr => ⟨(g.ok r hr).nm, (g.ok r hr).sy, g.len r hr⟩
theorem Gok.lhs {rs : List Rl} (g : Gok rs) : ∀ r ∈ rs, r.1 ∈ namesG rs := fun r hr => mem_names.mpr ⟨List.mem_append_left _ (List.mem_map.mpr ⟨r, hr, rfl⟩), g.nm r hr⟩
theorem Gok.rhs {rs : List Rl} (g : Gok rs) : ∀ r ∈ rs, ∀ x ∈ r.2, sgB x = false → x ∈ namesG rs := fun r hr x hx hs =>
  mem_names.mpr ⟨List.mem_append_right _ (allR_in r hr x hx), (g.sy r hr x hx).elim (fun z => by rw [z] at hs; cases hs) id⟩
theorem Gok.gd {rs : List Rl} (g : Gok rs) : Gd rs 4 6 := ⟨g.ruok, by decide, ⟨namesG rs, g.lhs, g.n6⟩, by decide, by have := g.r12; omega⟩
theorem Gok.allR {rs : List Rl} (g : Gok rs) : (LW.allR rs).length ≤ 48 := by
  have h := g.len
  have hr := g.r12
  have key : ∀ l : List Rl, (∀ r ∈ l, r.2.length ≤ 4) → (LW.allR l).length ≤ 4 * l.length := by
    intro l
    induction l with
    | nil => intro _; simp
    | cons r l ih =>
      intro h
      have h1 := h r List.mem_cons_self
      have h2 := ih fun q hq => h q (.tail _ hq)
      show ((r :: l).flatMap (·.2)).length ≤ _
      rw [List.flatMap_cons, List.length_append, List.length_cons]
      have h2 : (l.flatMap (·.2)).length ≤ 4 * l.length := h2
      omega
  have := key rs h
  omega
theorem Gok.tr {rs : List Rl} (g : Gok rs) (h : (namesG rs).find? (fun x => (getA (least rs) x).isNone) = none) : TR rs (least rs) := by
  have all : ∀ x ∈ namesG rs, ∃ w, getA (least rs) x = some w := fun x hx => by
    have := List.find?_eq_none.mp h x hx
    cases hg : getA (least rs) x with
    | none => rw [hg] at this; exact absurd rfl this
    | some w => exact ⟨w, rfl⟩
  exact fun r hr => ⟨all _ (g.lhs r hr), fun x hx hs => all _ (g.rhs r hr x hx hs)⟩
end LW
namespace LW
open PySem L2 DL
open TL (tl len_tl tl_append split_join join_eq)
structure Rok (r : Rl) : Prop where
  ru : isRule r = true
  ok : OkR r
theorem Rok.len {r : Rl} (h : Rok r) : r.2.length ≤ 4 := by
  have := h.ru
  unfold isRule at this
  simp at this
  exact this.1.2
end LW
namespace LW
open PySem L2 DL
theorem for_st {α J : Type} {p : D → DL.Env → Rz DL.Env} {b : DL.Env → Out} (en : α → D) (st : Nat → J → DL.Env) : ∀ (xs : List α) (k : Nat) (j0 : J),
    (∀ (i : Nat) (x : α) (j : J), xs[i]? = some x → ∃ e1 j', p (en x) (st (k + i) j) = .ok e1 ∧ (b e1 = .nx (st (k + i + 1) j') ∨ b e1 = .ct (st (k + i + 1) j'))) → ∃ j', forF p b (xs.map en) (st k j0) = .nx (st (k + xs.length) j')
  | [], k, j0, _ => ⟨j0, rfl⟩
  | x :: xs, k, j0, h => by
    obtain ⟨e1, j1, h1, h2⟩ := h 0 x j0 rfl
    obtain ⟨j', h3⟩ := for_st en st xs (k + 1) j1 fun i y j hy => by
      have := h (i + 1) y j (by simpa using hy)
      rw [show k + 1 + i = k + (i + 1) by omega]
      exact this
    refine ⟨j', ?_⟩
    rw [Nat.add_zero] at h1 h2
    rw [List.map_cons, forF, h1]
    dsimp only
    rw [show k + (x :: xs).length = k + 1 + xs.length by simp; omega]
    rcases h2 with h2 | h2 <;> rw [h2] <;> exact h3
theorem for_rg {J : Type} {p : D → DL.Env → Rz DL.Env} {b : DL.Env → Out} (st : Nat → J → DL.Env) (n : Nat) (j0 : J)
    (h : ∀ (i : Nat) (j : J), i < n → ∃ e1 j', p (.int (i : Nat)) (st i j) = .ok e1 ∧ (b e1 = .nx (st (i + 1) j') ∨ b e1 = .ct (st (i + 1) j'))) : ∃ j', forF p b ((List.range n).map fun (i : Nat) => .int i) (st 0 j0) = .nx (st n j') := by
  obtain ⟨j', h1⟩ := for_st (p := p) (b := b) (fun (i : Nat) => .int i) st (List.range n) 0 j0 fun i x j hx => by
    obtain ⟨hl, ex⟩ := List.getElem?_eq_some_iff.mp hx
    have e : x = i := by rw [← ex]; simp
    subst e
    rw [Nat.zero_add]
    exact h x j (by simpa using hl)
  exact ⟨j', by rw [h1]; simp⟩
theorem for_ls {α J : Type} {p : D → DL.Env → Rz DL.Env} {b : DL.Env → Out} (en : α → D) (st : List α → J → DL.Env) (xs : List α) (j0 : J)
    (h : ∀ (i : Nat) (x : α) (j : J), xs[i]? = some x → ∃ e1 j', p (en x) (st (xs.take i) j) = .ok e1 ∧ (b e1 = .nx (st (xs.take i ++ [x]) j') ∨ b e1 = .ct (st (xs.take i ++ [x]) j'))) : ∃ j', forF p b (xs.map en) (st [] j0) = .nx (st xs j') := by
  obtain ⟨j', h1⟩ := for_st (p := p) (b := b) en (fun i j => st (xs.take i) j) xs 0 j0 fun i x j hx => by
    rw [Nat.zero_add]
    have := h i x j hx
    rw [show xs.take (i + 1) = xs.take i ++ [x] by rw [List.take_succ, hx]; rfl]
    exact this
  refine ⟨j', ?_⟩
  rw [List.take_zero] at h1
  rw [h1, Nat.zero_add, List.take_length]
def gd (ds : List Nat) (i : Nat) : Nat := ds.getD i 0
theorem at_gd (ds : List Nat) (i : Int) (k : Nat) (hi : i = k) (h : k < ds.length) : atI (natD ds) i = some (.int (gd ds k : Nat)) := by
  rw [at_nat ds i k hi h]
  unfold gd
  rw [List.getD_eq_getElem?_getD, List.getElem?_eq_getElem h]; rfl
end LW
namespace LW
open PySem L2 DL
def keptR (rs : List Rl) : List Rl := rs.filter fun r => decide (r.1 ∈ reach rs (startG rs))
theorem getD_at {rs : List Rl} {k : Nat} {r : Rl} (h : rs[k]? = some r) : rs.getD k ("", []) = r := by
  rw [List.getD_eq_getElem?_getD, h]; rfl
end LW
namespace LW
open PySem L2 DL
@[simp] theorem mIdx_e (mo : DL.Env → Rz EV) (ma : DL.Env → Rz (List EV)) (env : DL.Env) : mIdx mo ma env = (mo env >>= fun a => lDOf a >>= fun ds => ma env >>= fun xs => ldL ds xs) := rfl
@[simp] theorem mCnt_e (mo : DL.Env → Rz EV) (ma : DL.Env → Rz (List EV)) (env : DL.Env) : mCnt mo ma env = (mo env >>= fun a => lSOf a >>= fun ys => ma env >>= fun xs => lmL cntF ys xs) := rfl
end LW
namespace LW
open PySem L2 DL
def SE : Nat → D → Prop
  | 0, _ => False
  | _ + 1, .non => True
  | _ + 1, .int _ => True
  | _ + 1, .str x => PyData.strOk x = true
  | n + 1, .tup ds => ds.length ≤ 100000 ∧ ∀ d ∈ ds, SE n d
  | n + 1, .lst ds => ds.length ≤ 100000 ∧ ∀ d ∈ ds, SE n d
  | _ + 1, _ => False
theorem SE.pl : ∀ {n : Nat} {d : D}, SE n d → PL n d
  | 0, _, h => h.elim
  | _ + 1, .non, _ => trivial
  | _ + 1, .int _, _ => trivial
  | _ + 1, .str _, h => h
  | n + 1, .tup ds, h => ⟨h.1, fun d hd => (h.2 d hd).pl⟩
  | n + 1, .lst ds, h => ⟨h.1, fun d hd => (h.2 d hd).pl⟩
theorem SE.mono : ∀ {n m : Nat} {d : D}, n ≤ m → SE n d → SE m d
  | 0, _, _, _, h => h.elim
  | n + 1, 0, _, q, _ => absurd q (by omega)
  | n + 1, m + 1, .non, _, _ => trivial
  | n + 1, m + 1, .int _, _, _ => trivial
  | n + 1, m + 1, .str _, _, h => h
  | n + 1, m + 1, .tup ds, q, h => ⟨h.1, fun d hd => (h.2 d hd).mono (by omega)⟩
  | n + 1, m + 1, .lst ds, q, h => ⟨h.1, fun d hd => (h.2 d hd).mono (by omega)⟩
theorem eqvs_SE {n : Nat} (ih : ∀ a b : D, SE n a → SE n b → (PyData.eqv (toPy a) (toPy b) = true ↔ a = b)) : ∀ (xs ys : List D), (∀ d ∈ xs, SE n d) → (∀ d ∈ ys, SE n d) → (PyData.eqvAll (toPys xs) (toPys ys) = true ↔ xs = ys)
  | [], [], _, _ => by simp [toPys, PyData.eqvAll]
  | [], _ :: _, _, _ => by simp [toPys, PyData.eqvAll]
  | _ :: _, [], _, _ => by simp [toPys, PyData.eqvAll]
  | x :: xs, y :: ys, hx, hy => by
    have h1 := ih x y (hx x List.mem_cons_self) (hy y List.mem_cons_self)
    have h2 := eqvs_SE ih xs ys (fun d hd => hx d (.tail _ hd)) (fun d hd => hy d (.tail _ hd))
    simp only [toPys, PyData.eqvAll, Bool.and_eq_true, h1, h2, List.cons.injEq]
theorem eqv_SE : ∀ {n : Nat} {a b : D}, SE n a → SE n b → (PyData.eqv (toPy a) (toPy b) = true ↔ a = b)
  | 0, _, _, h, _ => h.elim
  | n + 1, a, b, ha, hb => by
    have ih : ∀ a b : D, SE n a → SE n b → (PyData.eqv (toPy a) (toPy b) = true ↔ a = b) := fun a b h1 h2 => eqv_SE h1 h2
    cases a <;> first | exact ha.elim | skip
    all_goals cases b <;> first | exact hb.elim | skip
    all_goals try (simp [toPy, PyData.eqv]; done)
    · rename_i xs ys; simp only [toPy, PyData.eqv, D.tup.injEq]; exact eqvs_SE ih xs ys ha.2 hb.2
    · rename_i xs ys; simp only [toPy, PyData.eqv, D.lst.injEq]; exact eqvs_SE ih xs ys ha.2 hb.2
theorem eqD_SE {n : Nat} {a b : D} (ha : SE n a) (hb : SE n b) (hn : n ≤ 64) [Decidable (a = b)] : eqD a b = some (decide (a = b)) := by
  have s1 := ha.pl.shaped hn
  have s2 := hb.pl.shaped hn
  have he := eqv_SE ha hb
  have go : (if SeqAt.shaped (toPy a) = true ∧ SeqAt.shaped (toPy b) = true then some (PyData.eqv (toPy a) (toPy b)) else none) = some (decide (a = b)) := by
    rw [if_pos ⟨s1, s2⟩]
    congr 1
    by_cases h : a = b
    · rw [decide_eq_true h]; exact he.mpr h
    · rw [decide_eq_false h]
      cases q : PyData.eqv (toPy a) (toPy b) with
      | true => exact absurd (he.mp q) h
      | false => rfl
  unfold eqD
  split
  · simp
  · simp
  · cases n <;> exact ha.elim
  · exact go
section
variable {α : Type} [BEq α] [LawfulBEq α] {en : α → D} {n : Nat}
structure Enc (n : Nat) (en : α → D) : Prop where
  inj : ∀ x y, en x = en y → x = y
  seq : ∀ x, ∃ ds, en x = .tup ds ∨ en x = .lst ds
  n6 : n ≤ 60
theorem eqD_en (e : Enc n en) {x y : α} [Decidable (x = y)] (hx : SE n (en x)) (hy : SE n (en y)) : eqD (en x) (en y) = some (decide (x = y)) := by
  have : Decidable (en x = en y) := if h : x = y then .isTrue (congrArg en h) else .isFalse fun z => h (e.inj _ _ z)
  rw [eqD_SE hx hy (Nat.le_trans e.n6 (by decide))]
  congr 1
  by_cases h : x = y
  · rw [decide_eq_true h]; exact decide_eq_true (congrArg en h)
  · rw [decide_eq_false h]; exact decide_eq_false fun z => h (e.inj _ _ z)
theorem flat_en (e : Enc n en) (x : α) : flatD (en x) = false := by
  obtain ⟨ds, h | h⟩ := e.seq x <;> rw [h] <;> rfl
theorem inDs_en (e : Enc n en) {x : α} {xs : List α} (hx : SE n (en x)) (hs : ∀ y ∈ xs, SE n (en y)) (hl : xs.length ≤ 100000) : inDs (en x) (xs.map en) true = some (decide (x ∈ xs)) := by
  unfold inDs
  rw [if_neg (fun z => by rw [flat_en e x] at z; cases z.1)]
  have sx := hx.pl.shaped (Nat.le_trans e.n6 (by decide))
  have sl : SeqAt.shaped (.list (toPys (xs.map en))) = true := by
    have : PL (n + 1) (.lst (xs.map en)) := ⟨by simpa using hl, fun d hd => by
      obtain ⟨y, hy, rfl⟩ := List.mem_map.mp hd; exact (hs y hy).pl⟩
    exact this.shaped (by have := e.n6; omega)
  rw [if_pos ⟨rfl, sx, sl⟩]
  congr 1
  rw [toPys_map, List.any_map, List.any_map]
  by_cases h : x ∈ xs
  · rw [decide_eq_true h, List.any_eq_true]
    exact ⟨x, h, (eqv_SE hx hx).mpr rfl⟩
  · rw [decide_eq_false h, List.any_eq_false]
    intro y hy z
    exact h (e.inj _ _ ((eqv_SE (hs y hy) hx).mp z) ▸ hy)
theorem ni_en (e : Enc n en) {a b : EV} {x : α} {xs : List α} (ha : a.d = en x) (hb : b.d = .lst (xs.map en)) (hx : SE n (en x)) (hs : ∀ y ∈ xs, SE n (en y)) (hl : xs.length ≤ 100000) : opNi a b = .ok (.fz (.bl (!decide (x ∈ xs)))) := by
  unfold opNi inD
  rw [hb]
  dsimp only
  rw [ha, inDs_en e hx hs hl]
  rfl
end
section
variable {κ α : Type} [DecidableEq κ]
def getB (f : List (κ × α)) (x : κ) : Option α := (f.find? fun p => decide (p.1 = x)).map (·.2)
def putB (f : List (κ × α)) (x : κ) (w : α) : List (κ × α) := if (f.any fun p => decide (p.1 = x)) = true then f.map (fun p => if p.1 = x then (p.1, w) else p) else f ++ [(x, w)]
theorem getB_cons (p : κ × α) (f : List (κ × α)) (x : κ) : getB (p :: f) x = if p.1 = x then some p.2 else getB f x := by
  unfold getB
  rw [List.find?_cons]
  by_cases e : p.1 = x <;> simp [e]
theorem getB_any (f : List (κ × α)) (x : κ) : (f.any fun p => decide (p.1 = x)) = (getB f x).isSome := by
  induction f with
  | nil => rfl
  | cons p f ih =>
    rw [List.any_cons, getB_cons, ih]
    by_cases e : p.1 = x <;> simp [e]
theorem getB_mem {f : List (κ × α)} {x : κ} {w : α} (h : getB f x = some w) : (x, w) ∈ f := by
  induction f with
  | nil => cases h
  | cons p f ih =>
    rw [getB_cons] at h
    by_cases e : p.1 = x
    · rw [if_pos e] at h
      cases h; subst e; exact List.mem_cons_self
    · rw [if_neg e] at h; exact .tail _ (ih h)
theorem getB_none {f : List (κ × α)} {x : κ} : getB f x = none ↔ x ∉ f.map (·.1) := by
  induction f with
  | nil => simp [getB]
  | cons p f ih =>
    rw [getB_cons]
    by_cases e : p.1 = x
    · subst e; simp
    · rw [if_neg e, ih]
      simp [Ne.symm e]
theorem getB_map (f : List (κ × α)) (x y : κ) (w : α) : getB (f.map fun p => if p.1 = x then (p.1, w) else p) y = if y = x then (getB f y).map fun _ => w else getB f y := by
  induction f with
  | nil => simp [getB]
  | cons p f ih =>
    rw [List.map_cons, getB_cons, getB_cons, ih]
    by_cases e : p.1 = x
    · subst e
      by_cases g : p.1 = y
      · subst g; simp
      · simp [g]
    · by_cases g : p.1 = y
      · subst g; simp [e]
      · simp [e, g]
theorem getB_app (f : List (κ × α)) (x y : κ) (w : α) (h : getB f x = none) : getB (f ++ [(x, w)]) y = if y = x then some w else getB f y := by
  induction f with
  | nil =>
    rw [List.nil_append, getB_cons]
    by_cases e : x = y
    · subst e; simp
    · simp [e, Ne.symm e]
  | cons p f ih =>
    rw [getB_cons] at h
    by_cases e : p.1 = x
    · rw [if_pos e] at h; cases h
    · rw [if_neg e] at h
      rw [List.cons_append, getB_cons, getB_cons, ih h]
      by_cases g : p.1 = y
      · subst g; simp [e]
      · simp [g]
theorem getB_put (f : List (κ × α)) (x y : κ) (w : α) : getB (putB f x w) y = if y = x then some w else getB f y := by
  unfold putB
  rw [getB_any]
  split
  · rename_i h
    rw [getB_map]
    by_cases e : y = x
    · subst e
      obtain ⟨v, hv⟩ := Option.isSome_iff_exists.mp h
      simp [hv]
    · simp [e]
  · rename_i h
    exact getB_app f x y w (by cases q : getB f x <;> simp_all)
theorem putB_keys (f : List (κ × α)) (x : κ) (w : α) : (putB f x w).map (·.1) = if x ∈ f.map (·.1) then f.map (·.1) else f.map (·.1) ++ [x] := by
  unfold putB
  rw [getB_any]
  by_cases h : x ∈ f.map (·.1)
  · have h' : (getB f x).isSome = true := by
      cases q : getB f x with
      | none => exact absurd h (getB_none.mp q)
      | some w => rfl
    rw [if_pos h', if_pos h, List.map_map]
    apply List.map_congr_left
    intro p _
    simp only [Function.comp]
    split <;> rfl
  · have h' : getB f x = none := getB_none.mpr h
    rw [h', if_neg (by simp), if_neg h]
    simp
theorem putB_len (f : List (κ × α)) (x : κ) (w : α) : (putB f x w).length ≤ f.length + 1 := by
  unfold putB
  split <;> simp
def kvsB (ke : κ → D) (g : α → D) (f : List (κ × α)) : List (D × D) := f.map fun p => (ke p.1, g p.2)
structure KeyE (t : Bool) (ke : κ → D) : Prop where
  eq : ∀ a b, keyEq (ke a) (ke b) = decide (a = b)
  ok : ∀ a, isKeyD t (ke a) = true
variable {t : Bool} {ke : κ → D} {g : α → D}
theorem dfind_kvsB (h : KeyE t ke) (f : List (κ × α)) (x : κ) : dfind (kvsB ke g f) (ke x) = (getB f x).map g := by
  induction f with
  | nil => rfl
  | cons p f ih =>
    show dfind ((ke p.1, g p.2) :: kvsB ke g f) _ = _
    rw [dfind_cons, ih, getB_cons]
    simp only [h.eq, decide_eq_true_eq]
    split <;> rfl
theorem dstore_kvsB (h : KeyE t ke) (f : List (κ × α)) (x : κ) (w : α) : dstore (kvsB ke g f) (ke x) (g w) = kvsB ke g (putB f x w) := by
  unfold dstore putB
  have e : ((kvsB ke g f).any fun kv => keyEq kv.1 (ke x)) = f.any fun p => decide (p.1 = x) := by
    unfold kvsB
    rw [List.any_map]
    congr 1
    funext p
    simp [h.eq]
  rw [e]
  split
  · unfold kvsB
    rw [List.map_map, List.map_map]
    apply List.map_congr_left
    intro p _
    simp only [Function.comp, h.eq]
    by_cases h : p.1 = x
    · simp [h]
    · simp [h]
  · unfold kvsB; simp
theorem kvsB_length (f : List (κ × α)) : (kvsB ke g f).length = f.length := by unfold kvsB; simp
theorem ni_kvsB (h : KeyE t ke) (f : List (κ × α)) (x : κ) {a b : EV} {l : Bool} (ha : a.d = ke x) (hb : b.d = .dct t l (kvsB ke g f)) : opNi a b = .ok (.fz (.bl (!(getB f x).isSome))) := by
  unfold opNi inD
  rw [hb]
  dsimp only
  rw [ha, if_pos (h.ok x), dfind_kvsB h]
  simp
end
def kQS (p : Nat × Str) : D := .tup [.int (p.1 : Nat), .str p.2]
theorem keQS : KeyE true kQS := ⟨fun a b => by
  obtain ⟨i, x⟩ := a
  obtain ⟨j, y⟩ := b
  have := keyEq_dt [.inl (i : Int), .inr x] [.inl (j : Int), .inr y]
  refine Eq.trans this ?_
  by_cases h : (i, x) = (j, y)
  · rw [decide_eq_true h]; cases h; simp
  · rw [decide_eq_false h]
    refine decide_eq_false fun z => h ?_
    simp at z
    obtain ⟨z1, z2⟩ := z
    have z1 : (i : Int) = j := by simpa using z1
    have : i = j := by omega
    rw [this, z2], fun a => rfl⟩
end LW
namespace LW
open PySem L2 DL
abbrev It := Nat × Nat
def iD (p : It) : D := .tup [.int (p.1 : Nat), .int (p.2 : Nat)]
section
variable (fr : List Rl)
def ruA (k : Nat) : Rl := fr.getD k ("", [])
def symI (p : It) : Option Str := (ruA fr p.1).2[p.2]?
def cloK (o : Option Str) (its : List It) (k : Nat) : List It := if o = some (ruA fr k).1 ∧ (k, 0) ∉ its then its ++ [(k, 0)] else its
def cloN (o : Option Str) (its : List It) (n : Nat) : List It := (List.range n).foldl (cloK fr o) its
def cl (ker : List It) : Nat → List It
  | 0 => ker
  | i + 1 => match (cl ker i)[i]? with
    | some it => cloN fr (symI fr it) (cl ker i) fr.length
    | none => cl ker i
def closed (ker : List It) : List It := cl fr ker (ker.length + fr.length)
structure CI (ker its : List It) : Prop where
  nd : its.Nodup
  sub : ∀ x ∈ its, x ∈ ker ∨ ∃ k, k < fr.length ∧ x = (k, 0)
end
section
variable {fr : List Rl}
theorem CI.len {ker its : List It} (h : CI fr ker its) : its.length ≤ ker.length + fr.length := by
  have := nodup_len h.nd (m := ker ++ (List.range fr.length).map fun k => (k, 0)) fun x hx => by
    rw [List.mem_append]
    rcases h.sub x hx with h1 | ⟨k, hk, rfl⟩
    · exact .inl h1
    · exact .inr (List.mem_map.mpr ⟨k, List.mem_range.mpr hk, rfl⟩)
  simpa using this
theorem CI.step {ker its : List It} (h : CI fr ker its) {o : Option Str} {k : Nat} (hk : k < fr.length) : CI fr ker (cloK fr o its k) := by
  unfold cloK
  split
  · rename_i hc
    refine ⟨List.nodup_append.mpr ⟨h.nd, by simp, fun a ha b hb => ?_⟩, fun x hx => ?_⟩
    · simp only [List.mem_singleton] at hb
      subst hb
      intro e; subst e; exact hc.2 ha
    · rcases List.mem_append.mp hx with hx | hx
      · exact h.sub x hx
      · simp only [List.mem_singleton] at hx
        exact .inr ⟨k, hk, hx⟩
  · exact h
theorem cloN_succ (o : Option Str) (its : List It) (n : Nat) : cloN fr o its (n + 1) = cloK fr o (cloN fr o its n) n := by
  unfold cloN
  rw [List.range_succ, List.foldl_append]; rfl
theorem CI.run {ker its : List It} (h : CI fr ker its) (o : Option Str) : ∀ n, n ≤ fr.length → CI fr ker (cloN fr o its n)
  | 0, _ => h
  | n + 1, hn => by rw [cloN_succ]; exact (CI.run h o n (by omega)).step (by omega)
theorem cloN_pre (o : Option Str) (its : List It) : ∀ n, ∃ t, cloN fr o its n = its ++ t
  | 0 => ⟨[], by simp [cloN]⟩
  | n + 1 => by
    obtain ⟨t, h⟩ := cloN_pre o its n
    rw [cloN_succ, h]
    unfold cloK
    split
    · exact ⟨t ++ [(n, 0)], by rw [List.append_assoc]⟩
    · exact ⟨t, rfl⟩
theorem CI.cl {ker : List It} (h : ker.Nodup) : ∀ i, CI fr ker (LW.cl fr ker i)
  | 0 => ⟨h, fun x hx => .inl hx⟩
  | i + 1 => by
    unfold LW.cl
    split
    · exact (CI.cl h i).run _ _ (Nat.le_refl _)
    · exact CI.cl h i
def ItOk (fr : List Rl) (p : It) : Prop := p.1 < fr.length ∧ p.2 ≤ (ruA fr p.1).2.length
theorem CI.ok {ker its : List It} (h : CI fr ker its) (hk : ∀ x ∈ ker, ItOk fr x) : ∀ x ∈ its, ItOk fr x := fun x hx => by
  rcases h.sub x hx with h1 | ⟨k, h1, rfl⟩
  · exact hk x h1
  · exact ⟨h1, Nat.zero_le _⟩
end
end LW
namespace LW
open PySem L2 DL
def itLt (p q : It) : Bool := decide (p.1 < q.1 ∨ (p.1 = q.1 ∧ p.2 < q.2))
abbrev Ker := List It
def kD (k : Ker) : D := .lst (k.map iD)
abbrev Row := List (Str × Nat)
def nD (n : Nat) : D := .int (n : Nat)
def rowD (r : Row) : D := .dct false true (kvsB D.str nD r)
section
variable (fr : List Rl)
def going (ker : Ker) : List It := (closed fr ker).filter fun x => decide (x.2 < (ruA fr x.1).2.length)
def syA (p : It) : Str := (symI fr p).getD ""
def syms (ker : Ker) : List Str := DS.sortU ((going fr ker).map (syA fr))
def kerTo (ker : Ker) (X : Str) : Ker := isort itLt (((going fr ker).filter fun p => decide (syA fr p = X)).map fun p => (p.1, p.2 + 1))
def stX (ker : Ker) (s : List Ker × Row) (X : Str) : List Ker × Row :=
  let k := kerTo fr ker X
  let ks := if k ∈ s.1 then s.1 else s.1 ++ [k]
  (ks, putB s.2 X (ks.idxOf k))
def stK (ker : Ker) (ks : List Ker) : List Ker × Row := (syms fr ker).foldl (stX fr ker) (ks, [])
def stN : Nat → List Ker × List Row
  | 0 => ([[(fr.length - 1, 0)]], [])
  | i + 1 => match (stN i).1[i]? with
    | some ker => if (stN i).1.length ≤ 40 then ((stK fr ker (stN i).1).1, (stN i).2 ++ [(stK fr ker (stN i).1).2]) else stN i
    | none => stN i
def statesR : List Ker × List Row := stN fr 41
structure FrOk : Prop where
  ne : 0 < fr.length
  n13 : fr.length ≤ 13
  len : ∀ r ∈ fr, r.2.length ≤ 4
  ok : ∀ r ∈ fr, okW r.1 ∧ ∀ x ∈ r.2, okW x
def allIt : List It := (List.range fr.length).flatMap fun r => (List.range ((ruA fr r).2.length + 1)).map fun d => (r, d)
end
section
variable {fr : List Rl}
theorem mem_allIt {p : It} : p ∈ allIt fr ↔ ItOk fr p := by
  unfold allIt ItOk
  rw [List.mem_flatMap]
  constructor
  · rintro ⟨r, h1, h2⟩
    obtain ⟨d, h3, rfl⟩ := List.mem_map.mp h2
    exact ⟨List.mem_range.mp h1, by have := List.mem_range.mp h3; show d ≤ (ruA fr r).2.length; omega⟩
  · rintro ⟨h1, h2⟩
    exact ⟨p.1, List.mem_range.mpr h1, List.mem_map.mpr ⟨p.2, List.mem_range.mpr (by omega), rfl⟩⟩
theorem ruA_mem {k : Nat} (h : k < fr.length) : ruA fr k ∈ fr := by
  unfold ruA
  rw [getD_at (List.getElem?_eq_getElem h)]
  exact List.getElem_mem h
theorem FrOk.allIt (h : FrOk fr) : (LW.allIt fr).length ≤ 65 := by
  unfold LW.allIt
  have key : ∀ n, n ≤ fr.length → ((List.range n).flatMap fun r => (List.range ((ruA fr r).2.length + 1)).map fun d => (r, d)).length ≤ 5 * n := by
    intro n
    induction n with
    | zero => simp
    | succ n ih =>
      intro hn
      have h1 := ih (by omega)
      have h2 := h.len _ (ruA_mem (fr := fr) (k := n) (by omega))
      rw [List.range_succ, List.flatMap_append, List.length_append]
      simp only [List.flatMap_cons, List.flatMap_nil, List.append_nil, List.length_map, List.length_range]
      omega
  have := key fr.length (Nat.le_refl _)
  have := h.n13
  omega
structure KOk (fr : List Rl) (k : Ker) : Prop where
  nd : k.Nodup
  ok : ∀ x ∈ k, ItOk fr x
theorem KOk.len {k : Ker} (h : KOk fr k) (f : FrOk fr) : k.length ≤ 65 :=
  Nat.le_trans (nodup_len h.nd (m := allIt fr) fun x hx => mem_allIt.mpr (h.ok x hx)) f.allIt
theorem KOk.closed {k : Ker} (h : KOk fr k) : KOk fr (LW.closed fr k) := ⟨(CI.cl h.nd _).nd, (CI.cl h.nd _).ok h.ok⟩
theorem KOk.goLen {k : Ker} (h : KOk fr k) (f : FrOk fr) : (going fr k).length ≤ 65 := by
  unfold going
  exact Nat.le_trans (List.length_filter_le _ _) (h.closed.len f)
theorem go_sym {k : Ker} (h : KOk fr k) {p : It} (hp : p ∈ going fr k) : ItOk fr p ∧ symI fr p = some (syA fr p) ∧ p.2 < (ruA fr p.1).2.length := by
  obtain ⟨h1, h2⟩ := List.mem_filter.mp hp
  have h2 : p.2 < (ruA fr p.1).2.length := of_decide_eq_true h2
  refine ⟨h.closed.ok p h1, ?_, h2⟩
  unfold syA symI
  rw [List.getElem?_eq_getElem h2]; rfl
theorem KOk.to {k : Ker} (h : KOk fr k) (X : Str) : KOk fr (kerTo fr k X) := by
  have hp := isort_perm itLt (((going fr k).filter fun p => decide (syA fr p = X)).map fun p => (p.1, p.2 + 1))
  refine ⟨hp.nodup_iff.mpr ?_, fun x hx => ?_⟩
  · rw [List.nodup_iff_pairwise_ne]
    refine List.Pairwise.map _ (R := fun a b => a ≠ b) (fun a b hab e => hab ?_) ?_
    · simp only [Prod.mk.injEq] at e
      exact Prod.ext e.1 (by omega)
    · exact (h.closed.nd.filter _).filter _
  · obtain ⟨p, hp', rfl⟩ := List.mem_map.mp (hp.mem_iff.mp hx)
    obtain ⟨h1, h2⟩ := List.mem_filter.mp hp'
    obtain ⟨h3, _, h4⟩ := go_sym h h1
    exact ⟨h3.1, h4⟩
theorem syms_len {k : Ker} (h : KOk fr k) (f : FrOk fr) : (syms fr k).length ≤ 65 := by
  have := nodup_len (List.Pairwise.imp (fun {a b} hab e => by subst e; exact absurd hab (List.lt_irrefl _)) (DS.asc_sortU ((going fr k).map (syA fr))) : (syms fr k).Nodup) (m := (going fr k).map (syA fr)) fun x hx => DS.mem_sortU.mp hx
  have h2 := h.goLen f
  rw [List.length_map] at this
  omega
structure KsOk (fr : List Rl) (ks : List Ker) : Prop where
  nd : ks.Nodup
  ok : ∀ k ∈ ks, KOk fr k
theorem KsOk.step {ks : List Ker} (h : KsOk fr ks) {ker : Ker} (hk : KOk fr ker) (row : Row) (X : Str) : KsOk fr (stX fr ker (ks, row) X).1 ∧ (stX fr ker (ks, row) X).1.length ≤ ks.length + 1 := by
  unfold stX
  dsimp only
  split
  · exact ⟨h, by omega⟩
  · rename_i hn
    refine ⟨⟨List.nodup_append.mpr ⟨h.nd, by simp, fun a ha b hb => ?_⟩, fun k hk' => ?_⟩, by simp⟩
    · simp only [List.mem_singleton] at hb
      subst hb
      intro e; subst e; exact hn ha
    · rcases List.mem_append.mp hk' with h1 | h1
      · exact h.ok k h1
      · simp only [List.mem_singleton] at h1
        subst h1; exact hk.to X
theorem KsOk.fold {ker : Ker} (hk : KOk fr ker) : ∀ (l : List Str) (s : List Ker × Row), KsOk fr s.1 → KsOk fr (l.foldl (stX fr ker) s).1 ∧ (l.foldl (stX fr ker) s).1.length ≤ s.1.length + l.length ∧ (l.foldl (stX fr ker) s).2.length ≤ s.2.length + l.length
  | [], s, h => ⟨h, by simp, by simp⟩
  | X :: l, s, h => by
    obtain ⟨ks, row⟩ := s
    have h : KsOk fr ks := h
    obtain ⟨h1, h2⟩ := KsOk.step h hk row X
    obtain ⟨h3, h4, h5⟩ := KsOk.fold hk l (stX fr ker (ks, row) X) h1
    refine ⟨h3, ?_, ?_⟩
    · rw [List.foldl_cons, List.length_cons]
      show _ ≤ ks.length + _
      omega
    · have h6 : (stX fr ker (ks, row) X).2.length ≤ row.length + 1 := putB_len _ _ _
      rw [List.foldl_cons, List.length_cons]
      show _ ≤ row.length + _
      omega
theorem start_ok (f : FrOk fr) : KsOk fr [[(fr.length - 1, 0)]] := ⟨by simp, fun k hk => by
  simp only [List.mem_singleton] at hk
  subst hk
  refine ⟨by simp, fun x hx => ?_⟩
  simp only [List.mem_singleton] at hx
  subst hx
  exact ⟨by have := f.ne; show fr.length - 1 < fr.length; omega, Nat.zero_le _⟩⟩
theorem stN_ok (f : FrOk fr) : ∀ i, KsOk fr (stN fr i).1 ∧ (stN fr i).1.length ≤ 105 ∧ (stN fr i).2.length ≤ i
  | 0 => ⟨start_ok f, by simp [stN], by simp [stN]⟩
  | i + 1 => by
    obtain ⟨h1, h2, h3⟩ := stN_ok f i
    unfold stN
    split
    · rename_i ker hker
      split
      · rename_i h40
        have hk := h1.ok ker (List.mem_of_getElem? hker)
        obtain ⟨a, b, c⟩ := KsOk.fold hk (syms fr ker) ((stN fr i).1, []) h1
        have := syms_len hk f
        refine ⟨a, ?_, ?_⟩
        · show (stK fr ker (stN fr i).1).1.length ≤ _
          unfold stK
          have b : _ ≤ (stN fr i).1.length + _ := b
          omega
        · simp; omega
      · exact ⟨h1, h2, by omega⟩
    · exact ⟨h1, h2, by omega⟩
end
end LW
namespace LW
open PySem L2 DL
def aft (fs ls : As) (z : Str) : List Str → List Str → Option (List Str)
  | [], acc => some (acc ++ [z])
  | x :: r, acc => if sgB x = true then some (acc ++ [x]) else match getA fs x, getA ls x with
    | some f, some w => if w.isEmpty = false then some (acc ++ f) else aft fs ls z r (acc ++ f)
    | _, _ => none
theorem aft_some {fs ls : As} {z : Str} : ∀ {q : List Str} (acc : List Str), Told fs ls q → ∃ l, aft fs ls z q acc = some l
  | [], acc, _ => ⟨_, rfl⟩
  | x :: q, acc, h => by
    unfold aft
    by_cases hs : sgB x = true
    · rw [if_pos hs]; exact ⟨_, rfl⟩
    · rw [if_neg hs]
      obtain ⟨⟨f, hf⟩, w, hw⟩ := h x List.mem_cons_self (by simpa using hs)
      rw [hf, hw]
      dsimp only
      split
      · exact ⟨_, rfl⟩
      · exact aft_some _ fun y hy => h y (.tail _ hy)
theorem aft_mem {fs ls : As} {z : Str} {m : List Str} (hf : ∀ x f, getA fs x = some f → ∀ y ∈ f, y ∈ m) : ∀ {q acc l : List Str}, (∀ x ∈ q, x ∈ m) → (∀ x ∈ acc, x ∈ m) → aft fs ls z q acc = some l → ∀ y ∈ l, y ∈ m ∨ y = z
  | [], acc, l, _, ha, h => by
    cases h
    intro y hy
    rcases List.mem_append.mp hy with hy | hy
    · exact .inl (ha y hy)
    · rw [List.mem_singleton] at hy; exact .inr hy
  | x :: q, acc, l, hq, ha, h => by
    unfold aft at h
    by_cases hs : sgB x = true
    · rw [if_pos hs] at h
      cases h
      intro y hy
      rcases List.mem_append.mp hy with hy | hy
      · exact .inl (ha y hy)
      · rw [List.mem_singleton] at hy; subst hy; exact .inl (hq _ List.mem_cons_self)
    · rw [if_neg hs] at h
      cases hg : getA fs x with
      | none => rw [hg] at h; cases h
      | some f =>
        cases hw : getA ls x with
        | none => rw [hg, hw] at h; cases h
        | some w =>
          rw [hg, hw] at h
          dsimp only at h
          have ha2 : ∀ y ∈ acc ++ f, y ∈ m := fun y hy => (List.mem_append.mp hy).elim (ha y) (hf x f hg y)
          split at h
          · cases h; exact fun y hy => .inl (ha2 y hy)
          · exact aft_mem hf (fun y hy => hq y (.tail _ hy)) ha2 h
structure LsOk (ls : As) : Prop where
  ok : OkF ls
  len : ∀ x w, getA ls x = some w → w.length ≤ 100000
def h0 (rs : List Rl) : As := rs.foldl (fun f r => putA f r.1 []) []
def iterH (rs : List Rl) (ls : As) : Nat → As
  | 0 => h0 rs
  | i + 1 => (passG rs ls (iterH rs ls i)).1
def headsR (rs : List Rl) (ls : As) : As := iterH rs ls (rs.length + 1)
theorem h0_get (x : Str) : ∀ (rs : List Rl) (f : As), getA (rs.foldl (fun f r => putA f r.1 ([] : List Str)) f) x = if x ∈ rs.map (·.1) then some [] else getA f x
  | [], f => by simp
  | r :: rs, f => by
    rw [List.foldl_cons, h0_get x rs, getA_put, List.map_cons]
    by_cases h1 : x ∈ rs.map (·.1)
    · rw [if_pos h1, if_pos (.tail _ h1)]
    · rw [if_neg h1]
      by_cases h2 : x = r.1
      · rw [if_pos h2, if_pos (by rw [h2]; exact List.mem_cons_self)]
      · rw [if_neg h2, if_neg (fun z => (List.mem_cons.mp z).elim h2 h1)]
theorem h0_keys : ∀ (rs : List Rl) (f : As), (f.map (·.1)).Nodup → ((rs.foldl (fun f r => putA f r.1 ([] : List Str)) f).map (·.1)).Nodup ∧ (rs.foldl (fun f r => putA f r.1 ([] : List Str)) f).length ≤ f.length + rs.length
  | [], f, h => ⟨h, by simp⟩
  | r :: rs, f, h => by
    have hk : ((putA f r.1 ([] : List Str)).map (·.1)).Nodup := by
      rw [putA_keys]
      split
      · exact h
      · rename_i hn
        exact List.nodup_append.mpr ⟨h, by simp, fun a ha b hb => by
          simp only [List.mem_singleton] at hb
          subst hb; intro e; subst e; exact hn ha⟩
    have hl : (putA f r.1 ([] : List Str)).length ≤ f.length + 1 := by
      have := congrArg List.length (putA_keys f r.1 ([] : List Str))
      rw [List.length_map] at this
      rw [this]
      split <;> simp
    obtain ⟨a, b⟩ := h0_keys rs (putA f r.1 []) hk
    exact ⟨a, by rw [List.foldl_cons, List.length_cons]; omega⟩
theorem Sg.h0 (rs : List Rl) : Sg (allR rs) (LW.h0 rs) (LW.h0 rs) := by
  refine ⟨rfl, fun x f e => ?_, fun x f e y hy => ?_⟩
  · have e : getA (rs.foldl (fun f r => putA f r.1 ([] : List Str)) []) x = some f := e
    rw [h0_get] at e
    split at e
    · cases e; simp
    · cases e
  · have e : getA (rs.foldl (fun f r => putA f r.1 ([] : List Str)) []) x = some f := e
    rw [h0_get] at e
    split at e
    · cases e; cases hy
    · cases e
theorem h0_nd (rs : List Rl) : ((h0 rs).map (·.1)).Nodup := (h0_keys rs [] (by simp)).1
theorem Sg.stepH {rs : List Rl} {ls : As} {s : As × Bool} (h : Sg (allR rs) (LW.h0 rs) s.1) {r : Rl} (hr : r ∈ rs) : Sg (allR rs) (LW.h0 rs) (stepG ls s r).1 := by
  unfold stepG
  cases hl : lead s.1 ls r.2 [] with
  | none => exact h
  | some l => exact (Sg.adds (h0_nd rs) l s h (lead_mem h.sub (allR_in r hr) (fun _ z => by cases z) hl)).1
theorem Sg.foldH {rs : List Rl} {ls : As} : ∀ (l : List Rl) (s : As × Bool), (∀ r ∈ l, r ∈ rs) → Sg (allR rs) (LW.h0 rs) s.1 → Sg (allR rs) (LW.h0 rs) (l.foldl (stepG ls) s).1
  | [], s, _, h => h
  | r :: l, s, hl, h => Sg.foldH l _ (fun q hq => hl q (.tail _ hq)) (h.stepH (hl r List.mem_cons_self))
theorem Sg.iterH {rs : List Rl} {ls : As} : ∀ i, Sg (allR rs) (LW.h0 rs) (LW.iterH rs ls i)
  | 0 => Sg.h0 rs
  | i + 1 => Sg.foldH rs _ (fun _ h => h) (Sg.iterH i)
structure TRl (rs : List Rl) (ls : As) : Prop where
  lhs : ∀ r ∈ rs, ∃ w, getA ls r.1 = some w
  rhs : ∀ r ∈ rs, ∀ x ∈ r.2, sgB x = false → x ∈ rs.map (·.1)
theorem TRl.told {rs : List Rl} {ls fs : As} (h : TRl rs ls) (hk : fs.map (·.1) = (LW.h0 rs).map (·.1)) {r : Rl} (hr : r ∈ rs) : Told fs ls r.2 := fun x hx hs => by
  have h1 := h.rhs r hr x hx hs
  obtain ⟨r', hr', e⟩ := List.mem_map.mp h1
  have hw := h.lhs r' hr'
  rw [e] at hw
  refine ⟨key_some (ls := LW.h0 rs) hk ⟨[], ?_⟩, hw⟩
  show getA (rs.foldl (fun f r => putA f r.1 ([] : List Str)) []) x = _
  rw [h0_get, if_pos h1]
structure RsOk (rs : List Rl) : Prop where
  n13 : rs.length ≤ 13
  len : ∀ r ∈ rs, r.2.length ≤ 4
  ok : ∀ r ∈ rs, okW r.1 ∧ ∀ x ∈ r.2, okW x ∧ symB x
theorem RsOk.allR {rs : List Rl} (h : RsOk rs) : (LW.allR rs).length ≤ 52 := by
  have hr := h.n13
  have key : ∀ l : List Rl, (∀ r ∈ l, r.2.length ≤ 4) → (LW.allR l).length ≤ 4 * l.length := by
    intro l
    induction l with
    | nil => intro _; simp
    | cons r l ih =>
      intro h
      have h1 := h r List.mem_cons_self
      have h2 := ih fun q hq => h q (.tail _ hq)
      show ((r :: l).flatMap (·.2)).length ≤ _
      rw [List.flatMap_cons, List.length_append, List.length_cons]
      have h2 : (l.flatMap (·.2)).length ≤ 4 * l.length := h2
      omega
  have := key rs h.len
  omega
end LW
namespace LW
open PySem L2 DL
section
variable {fr : List Rl}
theorem cloN_mem (o : Option Str) (its : List It) : ∀ n k, k < n → o = some (ruA fr k).1 → (k, 0) ∈ cloN fr o its n
  | n + 1, k, hk, ho => by
    rw [cloN_succ]
    by_cases e : k = n
    · subst e
      unfold cloK
      split
      · simp
      · rename_i hc
        exact Classical.byContradiction fun z => hc ⟨ho, z⟩
    · have := cloN_mem o its n k (by omega) ho
      unfold cloK
      split
      · exact List.mem_append_left _ this
      · exact this
theorem cl_mono {ker : Ker} {i : Nat} : ∃ t, cl fr ker (i + 1) = cl fr ker i ++ t := by
  show ∃ t, (match (cl fr ker i)[i]? with
    | some it => cloN fr (symI fr it) (cl fr ker i) fr.length
    | none => cl fr ker i) = _
  split
  · exact cloN_pre _ _ _
  · exact ⟨[], by simp⟩
theorem cl_done {ker : Ker} : ∀ (i j : Nat) (it : It), j < i → (cl fr ker i)[j]? = some it → ∀ k < fr.length, symI fr it = some (ruA fr k).1 → (k, 0) ∈ cl fr ker i
  | i + 1, j, it, hj, hit, k, hk, hs => by
    obtain ⟨t, ht⟩ := cl_mono (fr := fr) (ker := ker) (i := i)
    by_cases e : j = i
    · subst e
      by_cases hl : j < (cl fr ker j).length
      · have h1 : (cl fr ker j)[j]? = some it := by
          rw [ht, List.getElem?_append_left hl] at hit; exact hit
        show (k, 0) ∈ (match (cl fr ker j)[j]? with
          | some it => cloN fr (symI fr it) (cl fr ker j) fr.length
          | none => cl fr ker j)
        rw [h1]
        exact cloN_mem _ _ _ k hk hs
      · have h1 : (cl fr ker j)[j]? = none := List.getElem?_eq_none_iff.mpr (by omega)
        have h2 : cl fr ker (j + 1) = cl fr ker j := by
          show (match (cl fr ker j)[j]? with
            | some it => cloN fr (symI fr it) (cl fr ker j) fr.length
            | none => cl fr ker j) = _
          rw [h1]
        rw [h2, h1] at hit; cases hit
    · by_cases hl : j < (cl fr ker i).length
      · rw [ht] at hit ⊢
        rw [List.getElem?_append_left hl] at hit
        exact List.mem_append_left _ (cl_done i j it (by omega) hit k hk hs)
      · have h1 : (cl fr ker i)[i]? = none := List.getElem?_eq_none_iff.mpr (by omega)
        have h2 : cl fr ker (i + 1) = cl fr ker i := by
          show (match (cl fr ker i)[i]? with
            | some it => cloN fr (symI fr it) (cl fr ker i) fr.length
            | none => cl fr ker i) = _
          rw [h1]
        rw [h2] at hit ⊢
        exact cl_done i j it (by omega) hit k hk hs
theorem closed_go {ker : Ker} (hn : ker.Nodup) {it : It} (h : it ∈ closed fr ker) {k : Nat} (hk : k < fr.length) (hs : symI fr it = some (ruA fr k).1) : (k, 0) ∈ closed fr ker := by
  obtain ⟨j, hj⟩ := List.getElem?_of_mem h
  have hl := (CI.cl (fr := fr) hn (ker.length + fr.length)).len
  have hj2 : j < (closed fr ker).length := (List.getElem?_eq_some_iff.mp hj).1
  exact cl_done _ j it (Nat.lt_of_lt_of_le hj2 hl) hj k hk hs
theorem cl_ker {ker : Ker} : ∀ i, ∀ x ∈ ker, x ∈ cl fr ker i
  | 0, x, h => h
  | i + 1, x, h => by
    obtain ⟨t, ht⟩ := cl_mono (fr := fr) (ker := ker) (i := i)
    rw [ht]
    exact List.mem_append_left _ (cl_ker i x h)
theorem closed_ker {ker : Ker} {x : It} (h : x ∈ ker) : x ∈ closed fr ker := cl_ker _ x h
theorem mem_kerTo {ker : Ker} {X : Str} {x : It} : x ∈ kerTo fr ker X ↔ ∃ p ∈ closed fr ker, symI fr p = some X ∧ x = (p.1, p.2 + 1) := by
  have hp := isort_perm itLt (((going fr ker).filter fun p => decide (syA fr p = X)).map fun p => ((p.1, p.2 + 1) : It))
  have e : x ∈ kerTo fr ker X ↔ x ∈ ((going fr ker).filter fun p => decide (syA fr p = X)).map fun p => ((p.1, p.2 + 1) : It) := hp.mem_iff
  rw [e, List.mem_map]
  constructor
  · rintro ⟨p, h1, rfl⟩
    obtain ⟨h2, h3⟩ := List.mem_filter.mp h1
    obtain ⟨h4, h5⟩ := List.mem_filter.mp h2
    have h5 : p.2 < (ruA fr p.1).2.length := of_decide_eq_true h5
    have h3 : syA fr p = X := of_decide_eq_true h3
    refine ⟨p, h4, ?_, rfl⟩
    unfold symI
    unfold syA symI at h3
    rw [List.getElem?_eq_getElem h5] at h3 ⊢
    rw [← h3]; rfl
  · rintro ⟨p, h1, h2, rfl⟩
    refine ⟨p, List.mem_filter.mpr ⟨List.mem_filter.mpr ⟨h1, ?_⟩, ?_⟩, rfl⟩
    · unfold symI at h2
      exact decide_eq_true (List.getElem?_eq_some_iff.mp h2).1
    · exact decide_eq_true (by unfold syA; rw [h2]; rfl)
theorem mem_syms {ker : Ker} {X : Str} : X ∈ syms fr ker ↔ ∃ p ∈ closed fr ker, symI fr p = some X := by
  unfold syms
  rw [DS.mem_sortU, List.mem_map]
  constructor
  · rintro ⟨p, h1, rfl⟩
    obtain ⟨h4, h5⟩ := List.mem_filter.mp h1
    have h5 : p.2 < (ruA fr p.1).2.length := of_decide_eq_true h5
    refine ⟨p, h4, ?_⟩
    unfold syA symI
    rw [List.getElem?_eq_getElem h5]; rfl
  · rintro ⟨p, h1, h2⟩
    refine ⟨p, List.mem_filter.mpr ⟨h1, ?_⟩, by unfold syA; rw [h2]; rfl⟩
    unfold symI at h2
    exact decide_eq_true (List.getElem?_eq_some_iff.mp h2).1
def RowIs (fr : List Rl) (ks : List Ker) (ker : Ker) (row : Row) : Prop := (∀ X, getB row X = if X ∈ syms fr ker then some (ks.idxOf (kerTo fr ker X)) else none) ∧ ∀ X ∈ syms fr ker, kerTo fr ker X ∈ ks
theorem idxOf_app {ks t : List Ker} {k : Ker} (h : k ∈ ks) : (ks ++ t).idxOf k = ks.idxOf k := by rw [List.idxOf_append, if_pos h]
theorem RowIs.app {ks t : List Ker} {ker : Ker} {row : Row} (h : RowIs fr ks ker row) : RowIs fr (ks ++ t) ker row := by
  refine ⟨fun X => ?_, fun X hX => List.mem_append_left _ (h.2 X hX)⟩
  rw [h.1 X]
  split
  · rename_i hX; rw [idxOf_app (h.2 X hX)]
  · rfl
theorem stX_pre {ker : Ker} (s : List Ker × Row) (X : Str) : ∃ t, (stX fr ker s X).1 = s.1 ++ t := by
  unfold stX
  dsimp only
  split
  · exact ⟨[], by simp⟩
  · exact ⟨_, rfl⟩
theorem stK_go {ker : Ker} : ∀ (l : List Str) (s : List Ker × Row), (∃ t, (l.foldl (stX fr ker) s).1 = s.1 ++ t) ∧ (∀ X ∈ l, kerTo fr ker X ∈ (l.foldl (stX fr ker) s).1) ∧
    (∀ X, getB (l.foldl (stX fr ker) s).2 X = if X ∈ l then some ((l.foldl (stX fr ker) s).1.idxOf (kerTo fr ker X)) else getB s.2 X)
  | [], s => ⟨⟨[], (by simp)⟩, fun X h => (by cases h), fun X => (by simp)⟩
  | Y :: l, s => by
    obtain ⟨⟨t, ht⟩, h2, h3⟩ := stK_go l (stX fr ker s Y)
    obtain ⟨t0, ht0⟩ := stX_pre (fr := fr) (ker := ker) s Y
    have hY : kerTo fr ker Y ∈ (stX fr ker s Y).1 := by
      unfold stX
      dsimp only
      split
      · assumption
      · simp
    rw [List.foldl_cons]
    refine ⟨⟨t0 ++ t, by rw [ht, ht0, List.append_assoc]⟩, fun X hX => ?_, fun X => ?_⟩
    · rcases List.mem_cons.mp hX with rfl | hX
      · rw [ht]; exact List.mem_append_left _ hY
      · exact h2 X hX
    · rw [h3 X]
      by_cases hl : X ∈ l
      · rw [if_pos hl, if_pos (.tail _ hl)]
      · rw [if_neg hl]
        have hg : getB (stX fr ker s Y).2 X = if X = Y then some ((stX fr ker s Y).1.idxOf (kerTo fr ker Y)) else getB s.2 X := by
          show getB (putB s.2 Y _) X = _
          rw [getB_put]
          rfl
        rw [hg]
        by_cases e : X = Y
        · subst e
          rw [if_pos rfl, if_pos List.mem_cons_self, ht, idxOf_app hY]
        · rw [if_neg e, if_neg (fun z => (List.mem_cons.mp z).elim e hl)]
theorem stK_row {ker : Ker} (ks : List Ker) : (∃ t, (stK fr ker ks).1 = ks ++ t) ∧ RowIs fr (stK fr ker ks).1 ker (stK fr ker ks).2 := by
  obtain ⟨h1, h2, h3⟩ := stK_go (fr := fr) (ker := ker) (syms fr ker) (ks, [])
  exact ⟨h1, fun X => (h3 X).trans rfl, h2⟩
structure RInv (fr : List Rl) (i : Nat) : Prop where
  rw : ∀ (s : Nat) (ker : Ker) (row : Row), (stN fr i).1[s]? = some ker → (stN fr i).2[s]? = some row → RowIs fr (stN fr i).1 ker row
  le : (stN fr i).2.length ≤ (stN fr i).1.length
  hd : ∃ t, (stN fr i).1 = [(fr.length - 1, 0)] :: t
  st : (stN fr i).2.length = i ∨ ∃ j, j < i ∧ stN fr i = stN fr j ∧ ((stN fr i).1.length ≤ j ∨ 40 < (stN fr i).1.length)
theorem RInv.keep {i : Nat} (h : RInv fr i) (e : stN fr (i + 1) = stN fr i) (hc : (stN fr i).1.length ≤ i ∨ 40 < (stN fr i).1.length) : RInv fr (i + 1) := by
  refine ⟨?_, ?_, ?_, ?_⟩
  · rw [e]; exact h.rw
  · rw [e]; exact h.le
  · rw [e]; exact h.hd
  · exact .inr ⟨i, by omega, e, by rw [e]; exact hc⟩
theorem stN_rows : ∀ i, RInv fr i
  | 0 => ⟨fun s ker row _ h => by simp [stN] at h, by simp [stN], ⟨[], rfl⟩, .inl rfl⟩
  | i + 1 => by
    have hi := stN_rows i
    obtain ⟨h1, h2, h3, h4⟩ := hi
    have hi := stN_rows i
    cases hX : (stN fr i).1[i]? with
    | none =>
      have e : stN fr (i + 1) = stN fr i := by rw [stN, hX]
      exact hi.keep e (.inl (List.getElem?_eq_none_iff.mp hX))
    | some ker =>
      by_cases h40 : (stN fr i).1.length ≤ 40
      · have e : stN fr (i + 1) = ((stK fr ker (stN fr i).1).1, (stN fr i).2 ++ [(stK fr ker (stN fr i).1).2]) := by
          rw [stN, hX]
          dsimp only
          rw [if_pos h40]
        obtain ⟨⟨t, ht⟩, hr⟩ := stK_row (fr := fr) (ker := ker) (stN fr i).1
        have hil : i < (stN fr i).1.length := (List.getElem?_eq_some_iff.mp hX).1
        have hlen : (stN fr i).2.length = i := by
          rcases h4 with h4 | ⟨j, hj, e2, h5⟩
          · exact h4
          · rcases h5 with h5 | h5
            · omega
            · omega
        refine ⟨fun s k row hs hrw => ?_, ?_, ?_, .inl (by rw [e]; simp [hlen])⟩
        · rw [e] at hs hrw ⊢
          have hs : (stK fr ker (stN fr i).1).1[s]? = some k := hs
          have hrw : ((stN fr i).2 ++ [(stK fr ker (stN fr i).1).2])[s]? = some row := hrw
          show RowIs fr (stK fr ker (stN fr i).1).1 k row
          by_cases hlt : s < i
          · rw [List.getElem?_append_left (by omega)] at hrw
            rw [ht, List.getElem?_append_left (by omega)] at hs
            rw [ht]
            exact (h1 s k row hs hrw).app
          · have es : s = i := by
              have := (List.getElem?_eq_some_iff.mp hrw).1
              rw [List.length_append] at this
              simp at this
              omega
            subst es
            rw [List.getElem?_append_right (by omega), hlen, Nat.sub_self] at hrw
            simp at hrw
            rw [ht, List.getElem?_append_left (by omega), hX] at hs
            cases hs
            rw [← hrw]
            exact hr
        · rw [e]
          show ((stN fr i).2 ++ [_]).length ≤ (stK fr ker (stN fr i).1).1.length
          rw [ht, List.length_append, List.length_append]
          simp
          omega
        · obtain ⟨t3, h3⟩ := h3
          refine ⟨t3 ++ t, ?_⟩
          rw [e]
          show (stK fr ker (stN fr i).1).1 = _
          rw [ht, h3]; rfl
      · have e : stN fr (i + 1) = stN fr i := by
          rw [stN, hX]
          dsimp only
          rw [if_neg h40]
        exact hi.keep e (.inr (by omega))
structure Tab (fr : List Rl) (ks : List Ker) (rows : List Row) : Prop where
  kso : KsOk fr ks
  n40 : ks.length ≤ 40
  len : rows.length = ks.length
  st0 : ks[0]? = some [(fr.length - 1, 0)]
  row : ∀ (s : Nat) (ker : Ker), ks[s]? = some ker → ∃ row, rows[s]? = some row ∧ RowIs fr ks ker row
theorem tab_of (f : FrOk fr) (h : (statesR fr).2.length = (statesR fr).1.length) : Tab fr (statesR fr).1 (statesR fr).2 := by
  have h1 := stN_ok f 41
  obtain ⟨a, b, ⟨t, c⟩, d⟩ := stN_rows (fr := fr) 41
  refine ⟨h1.1, ?_, h, by show (stN fr 41).1[0]? = _; rw [c]; rfl, fun s ker hs => ?_⟩
  · rcases d with d | ⟨j, hj, e, k⟩
    · -- all turns were made
      have hh : (stN fr 41).2.length = (stN fr 41).1.length := h
      have key : (stN fr 41).1.length ≤ 40 ∨ 40 < (stN fr 41).1.length := by omega
      rcases key with k | k
      · exact k
      · exfalso
        -- the last turn was made with at most 40 kernels, all of them done ahead of it but one
        have e40 : (stN fr 40).2.length ≤ 40 := (stN_ok f 40).2.2
        cases hX : (stN fr 40).1[40]? with
        | none =>
          have e : stN fr 41 = stN fr 40 := by rw [stN, hX]
          rw [e] at d; omega
        | some ker =>
          by_cases h40 : (stN fr 40).1.length ≤ 40
          · have := (List.getElem?_eq_some_iff.mp hX).1; omega
          · have e : stN fr 41 = stN fr 40 := by
              rw [stN, hX]
              dsimp only
              rw [if_neg h40]
            rw [e] at d; omega
    · rcases k with k | k
      · show (stN fr 41).1.length ≤ 40; omega
      · have hh : (stN fr 41).2.length = (stN fr 41).1.length := h
        have := (stN_ok f j).2.2
        rw [← e] at this
        omega
  · have hl : s < (statesR fr).2.length := by rw [h]; exact (List.getElem?_eq_some_iff.mp hs).1
    exact ⟨_, List.getElem?_eq_getElem hl, a s ker _ hs (List.getElem?_eq_getElem hl)⟩
def goB (rows : List Row) (s : Nat) (X : Str) : Option Nat := (rows[s]?).bind fun row => getB row X
theorem Tab.go {ks : List Ker} {rows : List Row} (t : Tab fr ks rows) {s : Nat} {ker : Ker} (hs : ks[s]? = some ker) {p : It} (hp : p ∈ closed fr ker) {X : Str} (hX : symI fr p = some X) :
    ∃ n, goB rows s X = some n ∧ ks[n]? = some (kerTo fr ker X) ∧ (p.1, p.2 + 1) ∈ kerTo fr ker X := by
  obtain ⟨row, h1, h2, h3⟩ := t.row s ker hs
  have hm : X ∈ syms fr ker := mem_syms.mpr ⟨p, hp, hX⟩
  refine ⟨ks.idxOf (kerTo fr ker X), ?_, ?_, mem_kerTo.mpr ⟨p, hp, hX, rfl⟩⟩
  · unfold goB
    rw [h1, Option.bind_some, h2 X, if_pos hm]
  · have hl := List.idxOf_lt_length_iff.mpr (h3 X hm)
    rw [List.getElem?_eq_getElem hl, List.getElem_idxOf]
theorem Tab.go_inv {ks : List Ker} {rows : List Row} (t : Tab fr ks rows) {s n : Nat} {ker : Ker} (hs : ks[s]? = some ker) {X : Str} (h : goB rows s X = some n) : X ∈ syms fr ker ∧ ks[n]? = some (kerTo fr ker X) := by
  obtain ⟨row, h1, h2, h3⟩ := t.row s ker hs
  unfold goB at h
  rw [h1, Option.bind_some, h2 X] at h
  split at h
  · rename_i hm
    cases h
    refine ⟨hm, ?_⟩
    have hl := List.idxOf_lt_length_iff.mpr (h3 X hm)
    rw [List.getElem?_eq_getElem hl, List.getElem_idxOf]
  · cases h
end
end LW
namespace LW
open PySem L2 DL
abbrev Qd := Nat × Nat × Nat × Str
inductive Ac where
  | acc | red (k : Nat) | sh (p : Nat)
deriving DecidableEq
def aD : Ac → D
  | .acc => .tup [.str "accept"]
  | .red k => .tup [.str "reduce", .int (k : Nat)]
  | .sh p => .tup [.str "shift", .int (p : Nat)]
abbrev Acts := List ((Nat × Str) × List Ac)
def fullR (rs : List Rl) : List Rl := rs ++ [(("" : Str), [startG rs])]
structure Cx0 where
  rs : List Rl
  ks : List Ker
  rows : List Row
  ls : As
  hs : As
namespace Cx0
variable (c : Cx0)
def fr : List Rl := fullR c.rs
def rgt (r : Nat) : List Str := (ruA c.fr r).2
def aftQ (q : Qd) : List Str := (aft c.hs c.ls q.2.2.2 ((c.rgt q.2.1).drop (q.2.2.1 + 1)) []).getD []
def moreK (q : Qd) (X : Str) (k : Nat) : List Qd := if (ruA c.fr k).1 = X then (c.aftQ q).map fun y => (q.1, k, 0, y) else []
def moreQ (q : Qd) : List Qd := match (c.rgt q.2.1)[q.2.2.1]? with
  | none => []
  | some X => ((goB c.rows q.1 X).getD 0, q.2.1, q.2.2.1 + 1, q.2.2.2) :: (List.range c.fr.length).flatMap (c.moreK q X)
def keyQ (q : Qd) : Nat × Str := match (c.rgt q.2.1)[q.2.2.1]? with
  | none => (q.1, q.2.2.2)
  | some X => if sgB X = true then (q.1, X) else (q.1, q.2.2.2)
def actQ (q : Qd) : Option Ac := match (c.rgt q.2.1)[q.2.2.1]? with
  | none => some (if q.2.1 = c.rs.length then .acc else .red q.2.1)
  | some X => if sgB X = true then some (.sh ((goB c.rows q.1 X).getD 0)) else none
def actS (acts : Acts) (q : Qd) : Acts := match c.actQ q with
  | none => acts
  | some a => if a ∈ (getB acts (c.keyQ q)).getD [] then acts else putB acts (c.keyQ q) ((getB acts (c.keyQ q)).getD [] ++ [a])
def addQ (t : List Qd) (x : Qd) : List Qd := if x ∈ t then t else t ++ [x]
def tdN : Nat → List Qd × Acts
  | 0 => ([(0, c.rs.length, 0, ("$" : Str))], [])
  | i + 1 => match (tdN i).1[i]? with
    | none => tdN i
    | some q => ((c.moreQ q).foldl addQ (tdN i).1, c.actS (tdN i).2 q)
def zs : List Str := "$" :: allR c.rs
def qMax : Nat := 200000 + c.rs.length
def quads : List Qd := (c.tdN c.qMax).1
def actsR : Acts := (c.tdN c.qMax).2
structure Ok : Prop where
  ne : c.rs ≠ []
  ro : RsOk c.rs
  n12 : c.rs.length ≤ 12
  nm : ∀ r ∈ c.rs, nmB r.1 = true
  tb : Tab c.fr c.ks c.rows
  lo : LsOk c.ls
  tr : TRl c.rs c.ls
  hk : c.hs.map (·.1) = (h0 c.rs).map (·.1)
  hl : ∀ x f, getA c.hs x = some f → f.length ≤ 52
  hm : ∀ x f, getA c.hs x = some f → ∀ y ∈ f, y ∈ allR c.rs
def QV (q : Qd) : Prop := ∃ ker, c.ks[q.1]? = some ker ∧ (q.2.1, q.2.2.1) ∈ closed c.fr ker ∧ q.2.2.2 ∈ c.zs
end Cx0
theorem okW_nil : okW "" := by constructor <;> decide +kernel
theorem nm_sym {x : Str} (h : nmB x = true) : symB x := .inr h
namespace Cx0
variable {c : Cx0}
theorem fr_len : c.fr.length = c.rs.length + 1 := by unfold fr fullR; simp
theorem ru_lt {k : Nat} (h : k < c.rs.length) : ruA c.fr k = c.rs[k] := by
  unfold ruA fr fullR
  rw [List.getD_eq_getElem?_getD, List.getElem?_append_left h, List.getElem?_eq_getElem h]; rfl
theorem ru_last : ruA c.fr c.rs.length = (("" : Str), [startG c.rs]) := by
  unfold ruA fr fullR
  rw [List.getD_eq_getElem?_getD, List.getElem?_append_right (Nat.le_refl _), Nat.sub_self]; rfl
theorem start_mem (h : c.Ok) : ∃ r ∈ c.rs, r.1 = startG c.rs := by
  have hne := h.ne
  unfold startG
  cases hr : c.rs with
  | nil => exact absurd hr hne
  | cons a b => exact ⟨a, List.mem_cons_self, rfl⟩
theorem rgt_ok (h : c.Ok) {r : Nat} (hr : r < c.fr.length) : ∀ x ∈ c.rgt r, okW x ∧ symB x := fun x hx => by
  rw [fr_len] at hr
  unfold rgt at hx
  by_cases e : r < c.rs.length
  · rw [ru_lt e] at hx
    exact (h.ro.ok _ (List.getElem_mem e)).2 x hx
  · have e : r = c.rs.length := by omega
    subst e
    rw [ru_last] at hx
    simp only [List.mem_singleton] at hx
    subst hx
    obtain ⟨q, hq, e⟩ := start_mem h
    rw [← e]
    exact ⟨(h.ro.ok q hq).1, nm_sym (h.nm q hq)⟩
theorem frOk (h : c.Ok) : FrOk c.fr := by
  refine ⟨by rw [fr_len]; omega, by rw [fr_len]; have := h.n12; omega, fun r hr => ?_, fun r hr => ?_⟩
  · rcases List.mem_append.mp hr with hr | hr
    · exact h.ro.len r hr
    · simp only [List.mem_singleton] at hr; subst hr; simp
  · rcases List.mem_append.mp hr with hr | hr
    · exact ⟨(h.ro.ok r hr).1, fun x hx => ((h.ro.ok r hr).2 x hx).1⟩
    · simp only [List.mem_singleton] at hr
      subst hr
      refine ⟨okW_nil, fun x hx => ?_⟩
      simp only [List.mem_singleton] at hx
      subst hx
      obtain ⟨q, hq, e⟩ := start_mem h
      rw [← e]; exact (h.ro.ok q hq).1
theorem told (h : c.Ok) {r : Nat} (hr : r < c.fr.length) (d : Nat) : Told c.hs c.ls ((c.rgt r).drop (d + 1)) := fun x hx hs => by
  rw [fr_len] at hr
  have hx2 := List.mem_of_mem_drop hx
  unfold rgt at hx hx2
  by_cases e : r < c.rs.length
  · rw [ru_lt e] at hx2
    exact h.tr.told h.hk (List.getElem_mem e) x hx2 hs
  · have e : r = c.rs.length := by omega
    subst e
    rw [ru_last] at hx
    simp at hx
theorem aft_is (h : c.Ok) {q : Qd} (hr : q.2.1 < c.fr.length) : aft c.hs c.ls q.2.2.2 ((c.rgt q.2.1).drop (q.2.2.1 + 1)) [] = some (c.aftQ q) := by
  obtain ⟨l, hl⟩ := aft_some (z := q.2.2.2) [] (told h hr q.2.2.1)
  unfold aftQ
  rw [hl]; rfl
theorem rgt_all (h : c.Ok) {r : Nat} (hr : r < c.fr.length) {d : Nat} : ∀ x ∈ (c.rgt r).drop (d + 1), x ∈ allR c.rs := fun x hx => by
  rw [fr_len] at hr
  have hx2 := List.mem_of_mem_drop hx
  unfold rgt at hx hx2
  by_cases e : r < c.rs.length
  · rw [ru_lt e] at hx2
    exact allR_in _ (List.getElem_mem e) x hx2
  · have e : r = c.rs.length := by omega
    subst e
    rw [ru_last] at hx
    simp at hx
theorem aft_zs (h : c.Ok) {q : Qd} (hr : q.2.1 < c.fr.length) (hz : q.2.2.2 ∈ c.zs) : ∀ y ∈ c.aftQ q, y ∈ c.zs := fun y hy => by
  rcases aft_mem h.hm (rgt_all h hr) (fun _ z => by cases z) (aft_is h hr) y hy with h1 | h1
  · exact .tail _ h1
  · rw [h1]; exact hz
theorem QV.lt (h : c.Ok) {q : Qd} (v : c.QV q) : q.2.1 < c.fr.length ∧ q.2.2.1 ≤ (c.rgt q.2.1).length ∧ q.1 < c.ks.length := by
  obtain ⟨ker, h1, h2, h3⟩ := v
  have := (h.tb.kso.ok ker (List.mem_of_getElem? h1)).closed.ok _ h2
  exact ⟨this.1, this.2, (List.getElem?_eq_some_iff.mp h1).1⟩
theorem QV.go (h : c.Ok) {q : Qd} (v : c.QV q) {X : Str} (hX : (c.rgt q.2.1)[q.2.2.1]? = some X) : ∃ n ker, goB c.rows q.1 X = some n ∧ c.ks[n]? = some (kerTo c.fr ker X) ∧ c.ks[q.1]? = some ker ∧ (q.2.1, q.2.2.1 + 1) ∈ kerTo c.fr ker X := by
  obtain ⟨ker, h1, h2, h3⟩ := v
  obtain ⟨n, a, b, d⟩ := h.tb.go h1 h2 (X := X) hX
  exact ⟨n, ker, a, b, h1, d⟩
theorem QV.more (h : c.Ok) {q : Qd} (v : c.QV q) : ∀ x ∈ c.moreQ q, c.QV x := fun x hx => by
  unfold moreQ at hx
  cases hX : (c.rgt q.2.1)[q.2.2.1]? with
  | none => rw [hX] at hx; cases hx
  | some X =>
    rw [hX] at hx
    obtain ⟨ker, h1, h2, h3⟩ := id v
    obtain ⟨n, ker', g1, g2, g3, g4⟩ := v.go h hX
    rw [h1] at g3; cases g3
    rcases List.mem_cons.mp hx with rfl | hx
    · rw [g1]
      exact ⟨_, g2, closed_ker g4, h3⟩
    · obtain ⟨k, hk, hx⟩ := List.mem_flatMap.mp hx
      unfold moreK at hx
      split at hx
      · rename_i e
        obtain ⟨y, hy, rfl⟩ := List.mem_map.mp hx
        have hlt := (v.lt h).1
        exact ⟨ker, h1, closed_go (h.tb.kso.ok ker (List.mem_of_getElem? h1)).nd h2 (List.mem_range.mp hk) (by rw [e]; exact hX), aft_zs h hlt h3 y hy⟩
      · cases hx
structure TInv (c : Cx0) (t : List Qd) : Prop where
  nd : t.Nodup
  ok : ∀ q ∈ t, c.QV q
theorem TInv.add {t : List Qd} (h : TInv c t) {x : Qd} (hx : c.QV x) : TInv c (addQ t x) := by
  unfold addQ
  split
  · exact h
  · rename_i hn
    exact ⟨List.nodup_append.mpr ⟨h.nd, by simp, fun a ha b hb => by
      simp only [List.mem_singleton] at hb
      subst hb; intro e; subst e; exact hn ha⟩, fun q hq => by
      rcases List.mem_append.mp hq with hq | hq
      · exact h.ok q hq
      · simp only [List.mem_singleton] at hq; subst hq; exact hx⟩
theorem TInv.fold : ∀ (l : List Qd) {t : List Qd}, TInv c t → (∀ x ∈ l, c.QV x) → TInv c (l.foldl addQ t)
  | [], _, h, _ => h
  | x :: l, _, h, hl => TInv.fold l (h.add (hl x List.mem_cons_self)) fun y hy => hl y (.tail _ hy)
theorem QV.start (h : c.Ok) : c.QV (0, c.rs.length, 0, ("$" : Str)) := by
  refine ⟨_, h.tb.st0, ?_, List.mem_cons_self⟩
  rw [fr_len]
  exact closed_ker List.mem_cons_self
theorem TInv.tdN (h : c.Ok) : ∀ i, TInv c (c.tdN i).1
  | 0 => ⟨by simp [Cx0.tdN], fun q hq => by
    have : q = (0, c.rs.length, 0, ("$" : Str)) := by simpa [Cx0.tdN] using hq
    rw [this]; exact QV.start h⟩
  | i + 1 => by
    have ih := TInv.tdN h i
    unfold Cx0.tdN
    split
    · exact ih
    · rename_i q hq
      exact TInv.fold _ ih fun x hx => (ih.ok q (List.mem_of_getElem? hq)).more h x hx
theorem TInv.len (h : c.Ok) {t : List Qd} (i : TInv c t) : t.length ≤ 150000 := by
  have f := frOk h
  have hA := f.allIt
  have hz : c.zs.length ≤ 53 := by unfold zs; rw [List.length_cons]; have := h.ro.allR; omega
  have hk := h.tb.n40
  have h1 := nodup_len i.nd (m := (List.range c.ks.length).flatMap fun s => (allIt c.fr).flatMap fun p => c.zs.map fun z => ((s, p.1, p.2, z) : Qd)) fun q hq => by
    have v := i.ok q hq
    obtain ⟨a, b, d⟩ := v.lt h
    obtain ⟨ker, e1, e2, e3⟩ := v
    exact List.mem_flatMap.mpr ⟨q.1, List.mem_range.mpr d, List.mem_flatMap.mpr ⟨(q.2.1, q.2.2.1), mem_allIt.mpr ⟨a, b⟩, List.mem_map.mpr ⟨q.2.2.2, e3, rfl⟩⟩⟩
  have h2 : ∀ (s : Nat) (l : List It), (l.flatMap fun p => c.zs.map fun z => ((s, p.1, p.2, z) : Qd)).length = l.length * c.zs.length := by
    intro s l
    induction l with
    | nil => simp
    | cons p l ih => rw [List.flatMap_cons, List.length_append, ih, List.length_map, List.length_cons, Nat.succ_mul]; omega
  have h3 : ∀ n : Nat, ((List.range n).flatMap fun s => (allIt c.fr).flatMap fun p => c.zs.map fun z => ((s, p.1, p.2, z) : Qd)).length = n * ((allIt c.fr).length * c.zs.length) := by
    intro n
    induction n with
    | zero => simp
    | succ n ih =>
      rw [List.range_succ, List.flatMap_append, List.length_append, ih]
      simp only [List.flatMap_cons, List.flatMap_nil, List.append_nil]
      rw [h2, Nat.succ_mul]
  rw [h3] at h1
  have h4 : (allIt c.fr).length * c.zs.length ≤ 65 * 53 := Nat.mul_le_mul hA hz
  have h5 : c.ks.length * ((allIt c.fr).length * c.zs.length) ≤ 40 * (65 * 53) := Nat.mul_le_mul hk h4
  omega
theorem tdN_succ (i : Nat) : c.tdN (i + 1) = match (c.tdN i).1[i]? with
    | none => c.tdN i
    | some q => ((c.moreQ q).foldl addQ (c.tdN i).1, c.actS (c.tdN i).2 q) := rfl
def AInv (c : Cx0) (acts : Acts) : Prop := ∀ k l, getB acts k = some l → l.Nodup ∧ ∀ a ∈ l, a = .acc ∨ (∃ r, r ≤ c.rs.length ∧ a = .red r) ∨ ∃ p, p < c.ks.length ∧ a = .sh p
theorem AInv.len (h : c.Ok) {acts : Acts} (i : AInv c acts) {k : Nat × Str} {l : List Ac} (hk : getB acts k = some l) : l.length ≤ 100 := by
  obtain ⟨h1, h2⟩ := i k l hk
  have := nodup_len h1 (m := .acc :: ((List.range (c.rs.length + 1)).map Ac.red ++ (List.range c.ks.length).map Ac.sh)) fun a ha => by
    rcases h2 a ha with rfl | ⟨r, hr, rfl⟩ | ⟨p, hp, rfl⟩
    · exact List.mem_cons_self
    · exact .tail _ (List.mem_append_left _ (List.mem_map.mpr ⟨r, List.mem_range.mpr (by omega), rfl⟩))
    · exact .tail _ (List.mem_append_right _ (List.mem_map.mpr ⟨p, List.mem_range.mpr hp, rfl⟩))
  simp at this
  have h1 := h.n12
  have h2 := h.tb.n40
  omega
theorem act_cases (h : c.Ok) {q : Qd} (v : c.QV q) {a : Ac} (ha : c.actQ q = some a) : a = .acc ∨ (∃ r, r ≤ c.rs.length ∧ a = .red r) ∨ ∃ p, p < c.ks.length ∧ a = .sh p := by
  unfold actQ at ha
  cases hX : (c.rgt q.2.1)[q.2.2.1]? with
  | none =>
    rw [hX] at ha
    dsimp only at ha
    cases ha
    have := (v.lt h).1
    rw [fr_len] at this
    split
    · exact .inl rfl
    · exact .inr (.inl ⟨q.2.1, by omega, rfl⟩)
  | some X =>
    rw [hX] at ha
    dsimp only at ha
    split at ha
    · cases ha
      obtain ⟨n, ker, g1, g2, g3, g4⟩ := v.go h hX
      rw [g1]
      exact .inr (.inr ⟨n, (List.getElem?_eq_some_iff.mp g2).1, rfl⟩)
    · cases ha
theorem AInv.step (h : c.Ok) {acts : Acts} (i : AInv c acts) {q : Qd} (v : c.QV q) : AInv c (c.actS acts q) := by
  unfold actS
  cases ha : c.actQ q with
  | none => exact i
  | some a =>
    dsimp only
    split
    · exact i
    · rename_i hn
      intro k l hl
      rw [getB_put] at hl
      split at hl
      · cases hl
        have base : ((getB acts (c.keyQ q)).getD []).Nodup ∧ ∀ a ∈ (getB acts (c.keyQ q)).getD [], a = .acc ∨ (∃ r, r ≤ c.rs.length ∧ a = .red r) ∨ ∃ p, p < c.ks.length ∧ a = .sh p := by
          cases hg : getB acts (c.keyQ q) with
          | none => exact ⟨by simp, fun a ha => by cases ha⟩
          | some l => exact i _ l hg
        refine ⟨List.nodup_append.mpr ⟨base.1, by simp, fun x hx y hy => ?_⟩, fun x hx => ?_⟩
        · simp only [List.mem_singleton] at hy
          subst hy; intro e; subst e; exact hn hx
        · rcases List.mem_append.mp hx with hx | hx
          · exact base.2 x hx
          · simp only [List.mem_singleton] at hx
            subst hx; exact act_cases h v ha
      · exact i k l hl
theorem AInv.tdN (h : c.Ok) : ∀ i, AInv c (c.tdN i).2
  | 0 => fun k l hl => by cases hl
  | i + 1 => by
    have ih := AInv.tdN h i
    rw [tdN_succ]
    split
    · exact ih
    · rename_i q hq
      exact ih.step h ((TInv.tdN h i).ok q (List.mem_of_getElem? hq))
end Cx0
end LW
namespace LW
open PySem L2 DL
namespace Cx0
end Cx0
end LW
namespace LW
open PySem L2 DL
def actD : Option Ac → D
  | none => .non
  | some a => aD a
namespace Cx0
end Cx0
end LW
namespace LW
open PySem L2 DL
structure WS (rs : List Rl) : Prop where
  ne : rs ≠ []
  ro : RsOk rs
  n12 : rs.length ≤ 12
  nm : ∀ r ∈ rs, nmB r.1 = true
  cl : ∀ r ∈ rs, ∀ x ∈ r.2, sgB x = false → x ∈ rs.map (·.1)
  nl : ∃ NL : List Str, (∀ r ∈ rs, r.1 ∈ NL) ∧ NL.length ≤ 6
theorem WS.gd {rs : List Rl} (h : WS rs) : Gd rs 4 6 := ⟨fun r hr => ⟨(h.ro.ok r hr).1, fun x hx => ((h.ro.ok r hr).2 x hx).1, h.ro.len r hr⟩, by decide, h.nl, by decide, by have := h.n12; omega⟩
theorem WS.sy {rs : List Rl} (h : WS rs) : ∀ r ∈ rs, ∀ x ∈ r.2, symB x := fun r hr x hx => ((h.ro.ok r hr).2 x hx).2
theorem WS.lo {rs : List Rl} (h : WS rs) : LsOk (least rs) := by
  have s := St.iter h.gd rs.length
  unfold least
  refine ⟨s.ok, fun x w e => ?_⟩
  have h1 := s.len.get (by decide) e
  have hL := s.len
  obtain ⟨NL, a, b⟩ := h.nl
  have h2 := hL.card a
  have h3 : 4 ^ (iterF rs rs.length).length ≤ 4 ^ 6 := Nat.pow_le_pow_right (by decide) (by omega)
  have : (4 : Nat) ^ 6 = 4096 := by decide
  omega
def toldB (rs : List Rl) : Bool := rs.all fun r => (getA (least rs) r.1).isSome
theorem WS.tr {rs : List Rl} (h : WS rs) (ht : toldB rs = true) : TRl rs (least rs) := ⟨fun r hr => by
  unfold toldB at ht
  rw [List.all_eq_true] at ht
  exact Option.isSome_iff_exists.mp (ht r hr), h.cl⟩
def cxOf (rs : List Rl) : Cx0 := ⟨rs, (statesR (fullR rs)).1, (statesR (fullR rs)).2, least rs, headsR rs (least rs)⟩
theorem frOk_of {rs : List Rl} (h : WS rs) : FrOk (fullR rs) := by
  obtain ⟨r0, rest, e0⟩ : ∃ r0 rest, rs = r0 :: rest := by
    cases hr : rs with
    | nil => exact absurd hr h.ne
    | cons a b => exact ⟨a, b, rfl⟩
  have hst : okW (startG rs) := by
    have : startG rs = r0.1 := by rw [e0]; rfl
    rw [this]
    exact (h.ro.ok r0 (by rw [e0]; exact List.mem_cons_self)).1
  unfold fullR
  refine ⟨by simp, by have := h.n12; simp; omega, fun r hr => ?_, fun r hr => ?_⟩
  · rcases List.mem_append.mp hr with hr | hr
    · exact h.ro.len r hr
    · simp only [List.mem_singleton] at hr; subst hr; simp
  · rcases List.mem_append.mp hr with hr | hr
    · exact ⟨(h.ro.ok r hr).1, fun x hx => ((h.ro.ok r hr).2 x hx).1⟩
    · simp only [List.mem_singleton] at hr
      subst hr
      refine ⟨okW_nil, fun x hx => ?_⟩
      simp only [List.mem_singleton] at hx
      subst hx
      exact hst
theorem WS.cx {rs : List Rl} (h : WS rs) (ht : toldB rs = true) (hw : (statesR (fullR rs)).2.length = (statesR (fullR rs)).1.length) : (cxOf rs).Ok := by
  have hs : Sg (allR rs) (h0 rs) (headsR rs (least rs)) := by unfold headsR; exact Sg.iterH (rs := rs) (ls := least rs) (rs.length + 1)
  have hA := h.ro.allR
  have h1 : Tab (fullR rs) (statesR (fullR rs)).1 (statesR (fullR rs)).2 := tab_of (frOk_of h) hw
  have h2 := h.tr ht
  have h3 := h.lo
  unfold cxOf
  generalize statesR (fullR rs) = S at h1
  generalize headsR rs (least rs) = hh at hs
  generalize least rs = ll at h2 h3
  exact ⟨h.ne, h.ro, h.n12, h.nm, h1, h3, h2, hs.keys, fun x f e => by have := hs.len x f e; omega, hs.sub⟩
structure Bt where
  rs : List Rl
  ks : List Ker
  rows : List Row
  acts : List ((Nat × Str) × Ac)
  ls : As
def Bt.d (b : Bt) : D := .lst [.lst ((fullR b.rs).map rL), .lst (b.ks.map kD), .lst (b.rows.map rowD), .dct true true (kvsB kQS aD b.acts), .dct false true (kvsD lW b.ls)]
def oneA (acts : Acts) : List ((Nat × Str) × Ac) := acts.map fun p => (p.1, p.2.headD .acc)
namespace Cx0
variable {c : Cx0}
theorem acts_keys : ∀ i, ((c.tdN i).2.map (·.1)).Nodup ∧ ∀ p ∈ (c.tdN i).2, p.2 ≠ []
  | 0 => ⟨by unfold tdN; simp, fun p hp => by unfold tdN at hp; simp at hp⟩
  | i + 1 => by
    have ih := acts_keys i
    rw [tdN_succ]
    split
    · exact ih
    · rename_i q hq
      show ((c.actS (c.tdN i).2 q).map (·.1)).Nodup ∧ ∀ p ∈ c.actS (c.tdN i).2 q, p.2 ≠ []
      unfold actS
      split
      · exact ih
      · split
        · exact ih
        · refine ⟨?_, fun p hp => ?_⟩
          · rw [putB_keys]
            split
            · exact ih.1
            · rename_i hn
              exact List.nodup_append.mpr ⟨ih.1, by simp, fun a ha b hb => by
                simp only [List.mem_singleton] at hb
                subst hb; intro e; subst e; exact hn ha⟩
          · unfold putB at hp
            split at hp
            · obtain ⟨p', hp', e⟩ := List.mem_map.mp hp
              split at e
              · rw [← e]; simp
              · rw [← e]; exact ih.2 p' hp'
            · rcases List.mem_append.mp hp with hp | hp
              · exact ih.2 p hp
              · simp only [List.mem_singleton] at hp
                rw [hp]; simp
end Cx0
end LW
namespace LW
open PySem L2 DL
end LW
namespace LW
open PySem L2 DL
inductive Rch (rs : List Rl) (s : Str) : Str → Prop
  | st : Rch rs s s
  | go {r : Rl} {x : Str} : r ∈ rs → Rch rs s r.1 → x ∈ r.2 → nmB x = true → Rch rs s x
theorem rchX_mem {X n : Str} {fd : List Str} {x y : Str} (h : y ∈ rchX X n fd x) : y ∈ fd ∨ (n = X ∧ nmB x = true ∧ y = x) := by
  unfold rchX at h
  split at h
  · rename_i hc
    rcases List.mem_append.mp h with h | h
    · exact .inl h
    · simp only [List.mem_singleton] at h
      exact .inr ⟨hc.1, hc.2.1, h⟩
  · exact .inl h
theorem rchR_mem {X n : Str} : ∀ {q : List Str} {fd : List Str} {y : Str}, y ∈ q.foldl (rchX X n) fd → y ∈ fd ∨ (n = X ∧ nmB y = true ∧ y ∈ q)
  | [], _, _, h => .inl h
  | x :: q, fd, y, h => by
    rcases rchR_mem (q := q) (fd := rchX X n fd x) h with h | ⟨h1, h2, h3⟩
    · rcases rchX_mem h with h | ⟨h1, h2, h3⟩
      · exact .inl h
      · subst h3; exact .inr ⟨h1, h2, List.mem_cons_self⟩
    · exact .inr ⟨h1, h2, .tail _ h3⟩
theorem rchP_mem {X : Str} : ∀ {rs : List Rl} {fd : List Str} {y : Str}, y ∈ rchP rs X fd → y ∈ fd ∨ ∃ r ∈ rs, r.1 = X ∧ nmB y = true ∧ y ∈ r.2
  | [], _, _, h => .inl h
  | r :: rs, fd, y, h => by
    have h : y ∈ rchP rs X (rchR X fd r) := h
    rcases rchP_mem h with h | ⟨r', h0, h1, h2, h3⟩
    · rcases rchR_mem h with h | ⟨h1, h2, h3⟩
      · exact .inl h
      · exact .inr ⟨r, List.mem_cons_self, h1, h2, h3⟩
    · exact .inr ⟨r', .tail _ h0, h1, h2, h3⟩
theorem rchX_in {X : Str} {fd : List Str} {x : Str} (h : nmB x = true) : x ∈ rchX X X fd x := by
  unfold rchX
  by_cases hx : x ∈ fd
  · rw [if_neg (fun z => z.2.2 hx)]; exact hx
  · rw [if_pos ⟨rfl, h, hx⟩]; simp
theorem rchR_in {X : Str} : ∀ {q : List Str} {fd : List Str} {y : Str}, nmB y = true → y ∈ q ∨ y ∈ fd → y ∈ q.foldl (rchX X X) fd
  | [], _, _, _, h => h.elim (fun z => by cases z) id
  | x :: q, fd, y, hn, h => by
    rw [List.foldl_cons]
    refine rchR_in hn ?_
    obtain ⟨t, ht⟩ := rchX_pre X X fd x
    rcases h with h | h
    · rcases List.mem_cons.mp h with rfl | h
      · exact .inr (rchX_in hn)
      · exact .inl h
    · exact .inr (by rw [ht]; exact List.mem_append_left _ h)
theorem rchR_keep {X n : Str} : ∀ {q : List Str} {fd : List Str} {y : Str}, y ∈ fd → y ∈ q.foldl (rchX X n) fd
  | [], _, _, h => h
  | x :: q, fd, y, h => by
    rw [List.foldl_cons]
    obtain ⟨t, ht⟩ := rchX_pre X n fd x
    exact rchR_keep (by rw [ht]; exact List.mem_append_left _ h)
theorem rchP_in {X : Str} : ∀ {rs : List Rl} {fd : List Str} {y : Str}, y ∈ fd ∨ (∃ r ∈ rs, r.1 = X ∧ nmB y = true ∧ y ∈ r.2) → y ∈ rchP rs X fd
  | [], _, _, h => h.elim id (fun ⟨_, z, _⟩ => by cases z)
  | r :: rs, fd, y, h => by
    show y ∈ rchP rs X (rchR X fd r)
    refine rchP_in ?_
    rcases h with h | ⟨r', h0, h1, h2, h3⟩
    · exact .inl (rchR_keep h)
    · rcases List.mem_cons.mp h0 with rfl | h0
      · refine .inl ?_
        unfold rchR
        rw [h1]
        exact rchR_in h2 (.inl h3)
      · exact .inr ⟨r', h0, h1, h2, h3⟩
theorem fr_pre {rs : List Rl} {s : Str} (i : Nat) : ∃ t, fr rs s (i + 1) = fr rs s i ++ t := by
  show ∃ t, (match (fr rs s i)[i]? with
    | some X => rchP rs X (fr rs s i)
    | none => fr rs s i) = _
  split
  · exact (rchP_fd (m := allS rs s) rs (fr rs s i) (fr_fd rs s i) allS_in).2
  · exact ⟨[], by simp⟩
theorem fr_sound {rs : List Rl} {s : Str} : ∀ i, ∀ x ∈ fr rs s i, Rch rs s x
  | 0, x, h => by
    have : x = s := by simpa [fr] using h
    rw [this]; exact .st
  | i + 1, x, h => by
    have h : x ∈ (match (fr rs s i)[i]? with
      | some X => rchP rs X (fr rs s i)
      | none => fr rs s i) := h
    split at h
    · rename_i X hX
      rcases rchP_mem h with h | ⟨r, h0, h1, h2, h3⟩
      · exact fr_sound i x h
      · exact .go h0 (by rw [h1]; exact fr_sound i X (List.mem_of_getElem? hX)) h3 h2
    · exact fr_sound i x h
theorem fr_done {rs : List Rl} {s : Str} : ∀ (i j : Nat) (X : Str), j < i → (fr rs s i)[j]? = some X → ∀ r ∈ rs, r.1 = X → ∀ y ∈ r.2, nmB y = true → y ∈ fr rs s i
  | i + 1, j, X, hj, hX, r, hr, e, y, hy, hn => by
    obtain ⟨t, ht⟩ := fr_pre (rs := rs) (s := s) i
    by_cases ej : j = i
    · subst ej
      by_cases hl : j < (fr rs s j).length
      · have h1 : (fr rs s j)[j]? = some X := by
          rw [ht, List.getElem?_append_left hl] at hX; exact hX
        rw [fr_succ h1]
        exact rchP_in (.inr ⟨r, hr, e, hn, hy⟩)
      · have h1 : (fr rs s j)[j]? = none := List.getElem?_eq_none_iff.mpr (by omega)
        have h2 : fr rs s (j + 1) = fr rs s j := by
          show (match (fr rs s j)[j]? with
            | some X => rchP rs X (fr rs s j)
            | none => fr rs s j) = _
          rw [h1]
        rw [h2, h1] at hX; cases hX
    · by_cases hl : j < (fr rs s i).length
      · rw [ht] at hX ⊢
        rw [List.getElem?_append_left hl] at hX
        exact List.mem_append_left _ (fr_done i j X (by omega) hX r hr e y hy hn)
      · have h1 : (fr rs s i)[i]? = none := List.getElem?_eq_none_iff.mpr (by omega)
        have h2 : fr rs s (i + 1) = fr rs s i := by
          show (match (fr rs s i)[i]? with
            | some X => rchP rs X (fr rs s i)
            | none => fr rs s i) = _
          rw [h1]
        rw [h2] at hX ⊢
        exact fr_done i j X (by omega) hX r hr e y hy hn
theorem reach_iff {rs : List Rl} {s x : Str} : x ∈ reach rs s ↔ Rch rs s x := by
  constructor
  · exact fr_sound _ x
  · intro h
    induction h with
    | st =>
      have : ∀ i, s ∈ fr rs s i := fun i => by
        induction i with
        | zero => simp [fr]
        | succ i ih =>
          obtain ⟨t, ht⟩ := fr_pre (rs := rs) (s := s) i
          rw [ht]; exact List.mem_append_left _ ih
      exact this _
    | @go r y hr _ hy hn ih =>
      obtain ⟨j, hj⟩ := List.getElem?_of_mem ih
      have hl := (fr_fd rs s (allS rs s).length).len
      have hj2 : j < (reach rs s).length := (List.getElem?_eq_some_iff.mp hj).1
      exact fr_done _ j r.1 (Nat.lt_of_lt_of_le hj2 hl) hj r hr rfl y hy hn
theorem kept_inv {rs : List Rl} (h : keptR rs = rs) : ∀ r ∈ rs, Rch rs (startG rs) r.1 := fun r hr => by
  unfold keptR at h
  rw [List.filter_eq_self] at h
  exact reach_iff.mp (of_decide_eq_true (h r hr))
theorem least_Ln (rs : List Rl) (x : Str) : getA (least rs) x = Ln rs rs.length x := by
  have h := iter_eq (rs := rs) (NL := rs.map (·.1)) (fun r hr => List.mem_map.mpr ⟨r, hr, rfl⟩) (n := rs.length) (by simp) x
  rw [List.length_map] at h
  exact h
end LW
namespace LW
open PySem L2 DL
structure Pl (ns sg : List Str) : Prop where
  n1 : 1 ≤ ns.length
  n5 : ns.length ≤ 5
  s6 : sg.length = 6
  nd : ns.Nodup
  sd : sg.Nodup
  nm : ∀ x ∈ ns, nmB x = true ∧ okW x
  sn : ∀ x ∈ sg, sgB x = true ∧ okW x
theorem nm_sg' {x : Str} (h : nmB x = true) : sgB x = false := by
  cases hs : sgB x with
  | false => rfl
  | true => rw [sg_nm hs] at h; cases h
theorem Pl.dis {ns sg : List Str} (p : Pl ns sg) {x : Str} (h1 : x ∈ ns) (h2 : x ∈ sg) : False := by
  have := nm_sg' (p.nm x h1).1
  rw [(p.sn x h2).1] at this; cases this
theorem Pl.ns_iff {ns sg : List Str} (p : Pl ns sg) {x : Str} (h : x ∈ ns ∨ x ∈ sg) : sgB x = false ↔ x ∈ ns := by
  constructor
  · intro hs
    rcases h with h | h
    · exact h
    · rw [(p.sn x h).1] at hs; cases hs
  · intro h; exact nm_sg' (p.nm x h).1
structure Wz (ns sg : List Str) (m n : Nat) (rs : List Rl) : Prop where
  ne : rs ≠ []
  n : rs.length ≤ n
  lf : ∀ r ∈ rs, r.1 ∈ ns
  sy : ∀ r ∈ rs, ∀ x ∈ r.2, x ∈ ns ∨ x ∈ sg
  cl : ∀ r ∈ rs, ∀ x ∈ r.2, x ∈ ns → x ∈ rs.map (·.1)
  ln : ∀ r ∈ rs, r.2.length ≤ m + 1
  nc : ∀ r ∈ rs, r.2.countP (fun x => !sgB x) ≤ m
theorem Wz.ws {ns sg : List Str} {m n : Nat} {rs : List Rl} (p : Pl ns sg) (h : Wz ns sg m n rs) (hm : m ≤ 3) (hn : n ≤ 12) : WS rs := by
  have hsy : ∀ r ∈ rs, ∀ x ∈ r.2, okW x ∧ symB x := fun r hr x hx => by
    rcases h.sy r hr x hx with z | z
    · exact ⟨(p.nm x z).2, .inr (p.nm x z).1⟩
    · exact ⟨(p.sn x z).2, .inl (p.sn x z).1⟩
  refine ⟨h.ne, ⟨by have := h.n; omega, fun r hr => by have := h.ln r hr; omega, fun r hr => ⟨(p.nm _ (h.lf r hr)).2, hsy r hr⟩⟩, by have := h.n; omega, fun r hr => (p.nm _ (h.lf r hr)).1, fun r hr x hx hs => ?_, ⟨ns, h.lf, by have := p.n5; omega⟩⟩
  exact h.cl r hr x hx ((p.ns_iff (h.sy r hr x hx)).mp hs)
end LW
namespace LW
open PySem L2 DL
variable {ns sg : List Str} {m n : Nat} {rs : List Rl}
structure Sgr (rs : List Rl) : Prop where
  hd : ∀ r ∈ rs, ∃ s q, r.2 = s :: q ∧ sgB s = true
  un : ∀ (i j : Nat) (r r' : Rl), rs[i]? = some r → rs[j]? = some r' → r.1 = r'.1 → r.2.head? = r'.2.head? → i = j
end LW
namespace LW
open PySem L2 DL
theorem not_sym_nil : ¬ symB "" := by
  intro h
  have h1 : sgB "" = false := by decide +kernel
  have h2 : nmB "" = false := by decide +kernel
  rcases h with h | h
  · rw [h1] at h; cases h
  · rw [h2] at h; cases h
theorem rF_len (rs : List Rl) : (fullR rs).length = rs.length + 1 := by unfold fullR; simp
theorem rF_lt {rs : List Rl} {k : Nat} (h : k < rs.length) : ruA (fullR rs) k = rs[k] := Cx0.ru_lt (c := ⟨rs, [], [], [], []⟩) h
theorem rF_last {rs : List Rl} : ruA (fullR rs) rs.length = (("" : Str), [startG rs]) := Cx0.ru_last (c := ⟨rs, [], [], [], []⟩)
section
variable {rs : List Rl}
theorem sI0 (g : Sgr rs) {k : Nat} (hk : k < rs.length) : ∃ s, symI (fullR rs) (k, 0) = some s ∧ sgB s = true := by
  obtain ⟨s, q, h1, h2⟩ := g.hd rs[k] (List.getElem_mem hk)
  refine ⟨s, ?_, h2⟩
  unfold symI
  rw [rF_lt hk, h1]; rfl
theorem sI_sym (w : WS rs) {p : It} (hp : p.1 < (fullR rs).length) {X : Str} (h : symI (fullR rs) p = some X) : symB X := by
  rw [rF_len] at hp
  unfold symI at h
  have hm := List.mem_of_getElem? h
  by_cases e : p.1 < rs.length
  · rw [rF_lt e] at hm
    exact w.sy _ (List.getElem_mem e) X hm
  · have e : p.1 = rs.length := by omega
    rw [e, rF_last] at hm
    simp only [List.mem_singleton] at hm
    rw [hm]
    cases hr : rs with
    | nil => exact absurd hr w.ne
    | cons a b => exact .inr (w.nm a (by rw [hr]; exact List.mem_cons_self))
theorem lef_nm (w : WS rs) {k : Nat} (hk : k < rs.length) : sgB (ruA (fullR rs) k).1 = false := by
  rw [rF_lt hk]; exact nm_sg' (w.nm _ (List.getElem_mem hk))
theorem lef_lt (w : WS rs) {k : Nat} (hk : k < (fullR rs).length) (h : symB (ruA (fullR rs) k).1) : k < rs.length := by
  rw [rF_len] at hk
  refine Classical.byContradiction fun z => ?_
  have e : k = rs.length := by omega
  rw [e, rF_last] at h
  exact not_sym_nil h
theorem cloN_inv {fr : List Rl} {o : Option Str} {its : List It} {x : It} : ∀ n, x ∈ cloN fr o its n → x ∈ its ∨ ∃ k, k < n ∧ x = (k, 0) ∧ o = some (ruA fr k).1
  | 0, h => .inl h
  | n + 1, h => by
    rw [cloN_succ] at h
    unfold cloK at h
    split at h
    · rename_i hc
      rcases List.mem_append.mp h with h | h
      · rcases cloN_inv n h with h | ⟨k, h1, h2⟩
        · exact .inl h
        · exact .inr ⟨k, by omega, h2⟩
      · simp only [List.mem_singleton] at h
        exact .inr ⟨n, by omega, h, hc.1⟩
    · rcases cloN_inv n h with h | ⟨k, h1, h2⟩
      · exact .inl h
      · exact .inr ⟨k, by omega, h2⟩
theorem cl_one (w : WS rs) (g : Sgr rs) {k0 : It} (hk : ItOk (fullR rs) k0) : ∀ i, ∀ x ∈ cl (fullR rs) [k0] i, x = k0 ∨ ∃ k, k < rs.length ∧ x = (k, 0) ∧ symI (fullR rs) k0 = some (ruA (fullR rs) k).1
  | 0, x, h => .inl (by simpa [cl] using h)
  | i + 1, x, h => by
    have h : x ∈ (match (cl (fullR rs) [k0] i)[i]? with
      | some it => cloN (fullR rs) (symI (fullR rs) it) (cl (fullR rs) [k0] i) (fullR rs).length
      | none => cl (fullR rs) [k0] i) := h
    split at h
    · rename_i it hit
      rcases cloN_inv _ h with h | ⟨k, h1, h2, h3⟩
      · exact cl_one w g hk i x h
      · rcases cl_one w g hk i it (List.mem_of_getElem? hit) with e | ⟨k', h4, e, h5⟩
        · subst e
          have := lef_lt w h1 (sI_sym w hk.1 h3)
          exact .inr ⟨k, this, h2, h3⟩
        · subst e
          obtain ⟨s, hs, hsg⟩ := sI0 g h4
          rw [hs] at h3
          have h3 := Option.some.inj h3
          have := lef_lt w h1 (by rw [← h3]; exact .inl hsg)
          have h6 := lef_nm w this
          rw [← h3, hsg] at h6; cases h6
    · exact cl_one w g hk i x h
theorem closed_one (w : WS rs) (g : Sgr rs) {k0 : It} (hk : ItOk (fullR rs) k0) {x : It} (h : x ∈ closed (fullR rs) [k0]) : x = k0 ∨ ∃ k, k < rs.length ∧ x = (k, 0) ∧ symI (fullR rs) k0 = some (ruA (fullR rs) k).1 := cl_one w g hk _ x h
theorem one_item (w : WS rs) (g : Sgr rs) {k0 : It} (hk : ItOk (fullR rs) k0) {p p' : It} (h : p ∈ closed (fullR rs) [k0]) (h' : p' ∈ closed (fullR rs) [k0]) {X : Str} (e : symI (fullR rs) p = some X) (e' : symI (fullR rs) p' = some X) : p = p' := by
  have mix : ∀ k, k < rs.length → symI (fullR rs) k0 = some X → symI (fullR rs) k0 = some (ruA (fullR rs) k).1 → symI (fullR rs) (k, 0) = some X → False := by
    intro k hk1 h1 h2 h3
    obtain ⟨s, hs, hsg⟩ := sI0 g hk1
    rw [hs] at h3
    rw [h1] at h2
    have := lef_nm w hk1
    rw [← Option.some.inj h2, ← Option.some.inj h3, hsg] at this; cases this
  rcases closed_one w g hk h with rfl | ⟨k, h1, rfl, h2⟩
  · rcases closed_one w g hk h' with rfl | ⟨k', h1', rfl, h2'⟩
    · rfl
    · exact (mix k' h1' e h2' e').elim
  · rcases closed_one w g hk h' with rfl | ⟨k', h1', rfl, h2'⟩
    · exact (mix k h1 e' h2 e).elim
    · rw [h2] at h2'
      have hl := Option.some.inj h2'
      rw [rF_lt h1, rF_lt h1'] at hl
      unfold symI at e e'
      dsimp only at e e'
      rw [rF_lt h1] at e
      rw [rF_lt h1'] at e'
      have := g.un k k' rs[k] rs[k'] (List.getElem?_eq_getElem h1) (List.getElem?_eq_getElem h1') hl (by rw [List.head?_eq_getElem?, List.head?_eq_getElem?, e, e'])
      rw [this]
theorem nodup_one {α : Type} {l : List α} {x : α} (hn : l.Nodup) (hx : x ∈ l) (h : ∀ y ∈ l, y = x) : l = [x] := by
  cases l with
  | nil => cases hx
  | cons a l =>
    have ha := h a List.mem_cons_self
    subst ha
    cases l with
    | nil => rfl
    | cons b l =>
      have hb := h b (.tail _ List.mem_cons_self)
      subst hb
      rw [List.nodup_cons] at hn
      exact absurd List.mem_cons_self hn.1
def One (rs : List Rl) (ker : Ker) : Prop := ∃ k0, ker = [k0] ∧ ItOk (fullR rs) k0 ∧ (k0 = (rs.length, 0) ∨ 1 ≤ k0.2)
theorem One.ok {ker : Ker} (h : One rs ker) : KOk (fullR rs) ker := by
  obtain ⟨k0, rfl, h2, _⟩ := h
  exact ⟨by simp, fun x hx => by simp only [List.mem_singleton] at hx; rw [hx]; exact h2⟩
theorem One.to (w : WS rs) (g : Sgr rs) {ker : Ker} (h : One rs ker) {X : Str} (hX : X ∈ syms (fullR rs) ker) : One rs (kerTo (fullR rs) ker X) := by
  have hok := h.ok.to X
  obtain ⟨k0, rfl, h2, _⟩ := h
  obtain ⟨p, hp, hs⟩ := mem_syms.mp hX
  have hm := mem_kerTo.mpr ⟨p, hp, hs, rfl⟩
  refine ⟨(p.1, p.2 + 1), nodup_one hok.nd hm fun y hy => ?_, hok.ok _ hm, .inr (by show 1 ≤ p.2 + 1; omega)⟩
  obtain ⟨p', hp', hs', rfl⟩ := mem_kerTo.mp hy
  rw [one_item w g h2 hp hp' hs hs']
end
namespace Cx0
variable {c : Cx0}
def AFrom (c : Cx0) (acts : Acts) : Prop := ∀ k l, getB acts k = some l → ∀ a ∈ l, ∃ q, c.QV q ∧ c.keyQ q = k ∧ c.actQ q = some a
theorem AFrom.step {acts : Acts} (i : AFrom c acts) {q : Qd} (v : c.QV q) : AFrom c (c.actS acts q) := by
  unfold actS
  cases ha : c.actQ q with
  | none => exact i
  | some a =>
    dsimp only
    split
    · exact i
    · intro k l hl
      rw [getB_put] at hl
      split at hl
      · rename_i ek
        cases hl
        intro x hx
        rcases List.mem_append.mp hx with hx | hx
        · cases hg : getB acts (c.keyQ q) with
          | none => rw [hg] at hx; cases hx
          | some l => rw [hg] at hx; rw [ek]; exact i _ l hg x hx
        · simp only [List.mem_singleton] at hx
          rw [hx]; exact ⟨q, v, ek.symm, ha⟩
      · exact i k l hl
theorem AFrom.tdN (h : c.Ok) : ∀ i, AFrom c (c.tdN i).2
  | 0 => fun k l hl => by unfold Cx0.tdN at hl; cases hl
  | i + 1 => by
    have ih := AFrom.tdN h i
    rw [tdN_succ]
    split
    · exact ih
    · rename_i q hq
      exact ih.step ((TInv.tdN h i).ok q (List.mem_of_getElem? hq))
end Cx0
end LW
namespace LW
open PySem L2 DL
end LW
namespace LW
open PySem L2 DL
theorem ws_names {rs : List Rl} (w : WS rs) {x : Str} (h : x ∈ namesG rs) : x ∈ rs.map (·.1) := by
  obtain ⟨h1, h2⟩ := mem_names.mp h
  rcases List.mem_append.mp h1 with h1 | h1
  · exact h1
  · obtain ⟨r, hr, hx⟩ := List.mem_flatMap.mp h1
    exact w.cl r hr x hx (nm_sg' h2)
theorem mem_signs {rs : List Rl} {x : Str} : x ∈ signsG rs ↔ x ∈ wordsR rs ∧ sgB x = true := by
  unfold signsG
  rw [DS.mem_sortU, List.mem_filter]
structure Rdg (rs : List Rl) : Prop where
  ws : WS rs
  gok : Gok rs
  n10 : rs.length ≤ 12
  n5 : (namesG rs).length ≤ 6
  told : toldB rs = true
  kept : keptR rs = rs
  short : ∀ x u, getA (least rs) x = some u → u.length ≤ 63
end LW
namespace LW
open PySem L2 DL
abbrev I3 := Nat × Nat × Nat
section
variable (fr : List Rl) (sets : List (List I3))
def more3 (its : List I3) (q : I3) : List I3 := match symI fr (q.1, q.2.1) with
  | some X => (((List.range fr.length).filter fun k => decide ((ruA fr k).1 = X)).map fun k => (k, 0, sets.length)) ++
      (its.filter fun d => decide (d.2.2 = sets.length ∧ d.2.1 = (ruA fr d.1).2.length ∧ (ruA fr d.1).1 = X)).map fun _ => (q.1, q.2.1 + 1, q.2.2)
  | none => ((if q.2.2 < sets.length then sets.getD q.2.2 [] else its).filter fun o => decide (symI fr (o.1, o.2.1) = some (ruA fr q.1).1)).map fun o => (o.1, o.2.1 + 1, o.2.2)
def addI (t : List I3) (x : I3) : List I3 := if x ∈ t then t else t ++ [x]
def sprN (its0 : List I3) : Nat → List I3
  | 0 => its0
  | i + 1 => match (sprN its0 i)[i]? with
    | none => sprN its0 i
    | some q => (more3 fr sets (sprN its0 i) q).foldl addI (sprN its0 i)
def Ok3 (q : I3) : Prop := q.1 < fr.length ∧ q.2.1 ≤ (ruA fr q.1).2.length ∧ q.2.2 ≤ sets.length
def all3 : List I3 := (List.range fr.length).flatMap fun r => (List.range ((ruA fr r).2.length + 1)).flatMap fun d => (List.range (sets.length + 1)).map fun o => (r, d, o)
def spr (its0 : List I3) : List I3 := sprN fr sets its0 (all3 fr sets).length
end
section
variable {fr : List Rl} {sets : List (List I3)}
theorem mem_all3 {q : I3} : q ∈ all3 fr sets ↔ Ok3 fr sets q := by
  obtain ⟨r, d, o⟩ := q
  unfold all3 Ok3
  simp only [List.mem_flatMap, List.mem_map, List.mem_range, Prod.mk.injEq]
  constructor
  · rintro ⟨r', h1, d', h2, o', h3, rfl, rfl, rfl⟩
    exact ⟨h1, by omega, by omega⟩
  · rintro ⟨h1, h2, h3⟩
    exact ⟨r, h1, d, by omega, o, by omega, rfl, rfl, rfl⟩
theorem addI_mem {t : List I3} {x y : I3} : y ∈ addI t x ↔ y ∈ t ∨ y = x := by
  unfold addI
  split
  · rename_i h
    exact ⟨.inl, fun z => z.elim id fun z => by rw [z]; exact h⟩
  · rw [List.mem_append, List.mem_singleton]
theorem addI_pre (t : List I3) (x : I3) : ∃ s, addI t x = t ++ s := by
  unfold addI
  split
  · exact ⟨[], by simp⟩
  · exact ⟨[x], rfl⟩
theorem addI_nd {t : List I3} (h : t.Nodup) (x : I3) : (addI t x).Nodup := by
  unfold addI
  split
  · exact h
  · rename_i hn
    exact List.nodup_append.mpr ⟨h, by simp, fun a ha b hb => by
      simp only [List.mem_singleton] at hb
      subst hb; intro e; subst e; exact hn ha⟩
theorem addF_mem : ∀ (l : List I3) {t : List I3} {y : I3}, y ∈ l.foldl addI t ↔ y ∈ t ∨ y ∈ l
  | [], t, y => by simp
  | x :: l, t, y => by
    rw [List.foldl_cons, addF_mem l, addI_mem, List.mem_cons]
    constructor
    · rintro ((h | h) | h)
      · exact .inl h
      · exact .inr (.inl h)
      · exact .inr (.inr h)
    · rintro (h | h | h)
      · exact .inl (.inl h)
      · exact .inl (.inr h)
      · exact .inr h
theorem addF_pre : ∀ (l : List I3) (t : List I3), ∃ s, l.foldl addI t = t ++ s
  | [], t => ⟨[], by simp⟩
  | x :: l, t => by
    obtain ⟨s1, h1⟩ := addI_pre t x
    obtain ⟨s2, h2⟩ := addF_pre l (addI t x)
    exact ⟨s1 ++ s2, by rw [List.foldl_cons, h2, h1, List.append_assoc]⟩
theorem addF_nd : ∀ (l : List I3) {t : List I3}, t.Nodup → (l.foldl addI t).Nodup
  | [], _, h => h
  | x :: l, _, h => addF_nd l (addI_nd h x)
theorem sprN_succ (its0 : List I3) (i : Nat) : sprN fr sets its0 (i + 1) = match (sprN fr sets its0 i)[i]? with
    | none => sprN fr sets its0 i
    | some q => (more3 fr sets (sprN fr sets its0 i) q).foldl addI (sprN fr sets its0 i) := rfl
theorem sprN_pre (its0 : List I3) (i : Nat) : ∃ s, sprN fr sets its0 (i + 1) = sprN fr sets its0 i ++ s := by
  rw [sprN_succ]
  split
  · exact ⟨[], by simp⟩
  · exact addF_pre _ _
theorem sprN_mono (its0 : List I3) {i j : Nat} (h : i ≤ j) : ∃ s, sprN fr sets its0 j = sprN fr sets its0 i ++ s := by
  induction j with
  | zero => rw [Nat.le_zero.mp h]; exact ⟨[], by simp⟩
  | succ j ih =>
    rcases Nat.eq_or_lt_of_le h with e | e
    · rw [e]; exact ⟨[], by simp⟩
    · obtain ⟨s1, h1⟩ := ih (Nat.le_of_lt_succ e)
      obtain ⟨s2, h2⟩ := sprN_pre (fr := fr) (sets := sets) its0 j
      exact ⟨s1 ++ s2, by rw [h2, h1, List.append_assoc]⟩
def SetsOk (fr : List Rl) (sets : List (List I3)) : Prop := ∀ (n : Nat) (s : List I3), sets[n]? = some s → s.Nodup ∧ ∀ q ∈ s, q.1 < fr.length ∧ q.2.1 ≤ (ruA fr q.1).2.length ∧ q.2.2 ≤ n
theorem more3_ok (hs : SetsOk fr sets) {its : List I3} (hi : ∀ q ∈ its, Ok3 fr sets q) {q : I3} (hq : Ok3 fr sets q) : ∀ x ∈ more3 fr sets its q, Ok3 fr sets x := fun x hx => by
  unfold more3 at hx
  split at hx
  · rename_i X hX
    have hlt : q.2.1 < (ruA fr q.1).2.length := (List.getElem?_eq_some_iff.mp hX).1
    rcases List.mem_append.mp hx with hx | hx
    · obtain ⟨k, hk, rfl⟩ := List.mem_map.mp hx
      exact ⟨List.mem_range.mp (List.mem_filter.mp hk).1, Nat.zero_le _, Nat.le_refl _⟩
    · obtain ⟨d, hd, rfl⟩ := List.mem_map.mp hx
      exact ⟨hq.1, hlt, hq.2.2⟩
  · obtain ⟨o, ho, rfl⟩ := List.mem_map.mp hx
    obtain ⟨h1, h2⟩ := List.mem_filter.mp ho
    have h2 : symI fr (o.1, o.2.1) = some (ruA fr q.1).1 := of_decide_eq_true h2
    have hlt : o.2.1 < (ruA fr o.1).2.length := (List.getElem?_eq_some_iff.mp h2).1
    split at h1
    · rename_i hc
      rw [List.getD_eq_getElem?_getD, List.getElem?_eq_getElem hc] at h1
      have h3 := (hs q.2.2 _ (List.getElem?_eq_getElem hc)).2 o h1
      exact ⟨h3.1, hlt, by have := h3.2.2; show o.2.2 ≤ sets.length; omega⟩
    · have h3 := hi o h1
      exact ⟨h3.1, hlt, h3.2.2⟩
theorem sprN_ok (hs : SetsOk fr sets) {its0 : List I3} (hn : its0.Nodup) (h0 : ∀ q ∈ its0, Ok3 fr sets q) : ∀ i, (sprN fr sets its0 i).Nodup ∧ ∀ q ∈ sprN fr sets its0 i, Ok3 fr sets q
  | 0 => ⟨hn, h0⟩
  | i + 1 => by
    have ih := sprN_ok hs hn h0 i
    rw [sprN_succ]
    split
    · exact ih
    · rename_i q hq
      refine ⟨addF_nd _ ih.1, fun x hx => ?_⟩
      rcases (addF_mem _).mp hx with hx | hx
      · exact ih.2 x hx
      · exact more3_ok hs ih.2 (ih.2 q (List.mem_of_getElem? hq)) x hx
theorem sprN_len (hs : SetsOk fr sets) {its0 : List I3} (hn : its0.Nodup) (h0 : ∀ q ∈ its0, Ok3 fr sets q) (i : Nat) : (sprN fr sets its0 i).length ≤ (all3 fr sets).length :=
  nodup_len (sprN_ok hs hn h0 i).1 fun q hq => mem_all3.mpr ((sprN_ok hs hn h0 i).2 q hq)
theorem sprN_stop {its0 : List I3} {i : Nat} (h : (sprN fr sets its0 i).length ≤ i) : ∀ j, i ≤ j → sprN fr sets its0 j = sprN fr sets its0 i := by
  intro j hj
  induction j with
  | zero =>
    have : i = 0 := by omega
    subst this; rfl
  | succ j ih =>
    by_cases e : i = j + 1
    · subst e; rfl
    · have := ih (by omega)
      rw [sprN_succ, this, List.getElem?_eq_none_iff.mpr (by omega)]
theorem spr_step (hs : SetsOk fr sets) {its0 : List I3} (hn : its0.Nodup) (h0 : ∀ q ∈ its0, Ok3 fr sets q) {i : Nat} {q : I3} (hi : (spr fr sets its0)[i]? = some q) :
    (sprN fr sets its0 i)[i]? = some q ∧ ∀ x ∈ more3 fr sets (sprN fr sets its0 i) q, x ∈ spr fr sets its0 := by
  have hl := sprN_len hs hn h0 (all3 fr sets).length
  have hlt : i < (spr fr sets its0).length := (List.getElem?_eq_some_iff.mp hi).1
  have hlt2 : i < (all3 fr sets).length := Nat.lt_of_lt_of_le hlt hl
  have hfull : i < (sprN fr sets its0 i).length := by
    refine Classical.byContradiction fun z => ?_
    have := sprN_stop (fr := fr) (sets := sets) (its0 := its0) (i := i) (by omega) (all3 fr sets).length (by omega)
    have hlt : i < (sprN fr sets its0 (all3 fr sets).length).length := hlt
    rw [this] at hlt; omega
  obtain ⟨s, e⟩ := sprN_mono (fr := fr) (sets := sets) its0 (i := i) (j := (all3 fr sets).length) (by omega)
  have hi' : (sprN fr sets its0 (all3 fr sets).length)[i]? = some q := hi
  rw [e, List.getElem?_append_left hfull] at hi'
  refine ⟨hi', fun x hx => ?_⟩
  obtain ⟨s2, e2⟩ := sprN_mono (fr := fr) (sets := sets) its0 (i := i + 1) (j := (all3 fr sets).length) (by omega)
  show x ∈ sprN fr sets its0 (all3 fr sets).length
  rw [e2]
  refine List.mem_append_left _ ?_
  rw [sprN_succ, hi']
  exact (addF_mem _).mpr (.inr hx)
theorem spr_base (its0 : List I3) : ∀ q ∈ its0, q ∈ spr fr sets its0 := fun q hq => by
  obtain ⟨s, e⟩ := sprN_mono (fr := fr) (sets := sets) its0 (i := 0) (j := (all3 fr sets).length) (Nat.zero_le _)
  show q ∈ sprN fr sets its0 (all3 fr sets).length
  rw [e]
  exact List.mem_append_left _ hq
theorem spr_pred (hs : SetsOk fr sets) {its0 : List I3} (hn : its0.Nodup) (h0 : ∀ q ∈ its0, Ok3 fr sets q) {q : I3} (hq : q ∈ spr fr sets its0) {X : Str} (hX : symI fr (q.1, q.2.1) = some X) {k : Nat} (hk : k < fr.length) (e : (ruA fr k).1 = X) : (k, 0, sets.length) ∈ spr fr sets its0 := by
  obtain ⟨i, hi⟩ := List.getElem?_of_mem hq
  obtain ⟨_, h2⟩ := spr_step hs hn h0 hi
  refine h2 _ ?_
  unfold more3
  rw [hX]
  exact List.mem_append_left _ (List.mem_map.mpr ⟨k, List.mem_filter.mpr ⟨List.mem_range.mpr hk, decide_eq_true e⟩, rfl⟩)
theorem spr_comp (hs : SetsOk fr sets) {its0 : List I3} (hn : its0.Nodup) (h0 : ∀ q ∈ its0, Ok3 fr sets q) {q : I3} (hq : q ∈ spr fr sets its0) (hf : q.2.1 = (ruA fr q.1).2.length) {s : List I3} (hs1 : sets[q.2.2]? = some s) {o : I3} (ho : o ∈ s) (hX : symI fr (o.1, o.2.1) = some (ruA fr q.1).1) : (o.1, o.2.1 + 1, o.2.2) ∈ spr fr sets its0 := by
  obtain ⟨i, hi⟩ := List.getElem?_of_mem hq
  obtain ⟨_, h2⟩ := spr_step hs hn h0 hi
  refine h2 _ ?_
  have hnone : symI fr (q.1, q.2.1) = none := by
    unfold symI
    exact List.getElem?_eq_none_iff.mpr (by show (ruA fr q.1).2.length ≤ q.2.1; omega)
  have hlt := (List.getElem?_eq_some_iff.mp hs1).1
  unfold more3
  rw [hnone]
  dsimp only
  rw [if_pos hlt, List.getD_eq_getElem?_getD, hs1]
  exact List.mem_map.mpr ⟨o, List.mem_filter.mpr ⟨ho, decide_eq_true hX⟩, rfl⟩
theorem spr_here (hs : SetsOk fr sets) {its0 : List I3} (hn : its0.Nodup) (h0 : ∀ q ∈ its0, Ok3 fr sets q) {q o : I3} (hq : q ∈ spr fr sets its0) (hf : q.2.1 = (ruA fr q.1).2.length) (hh : q.2.2 = sets.length) (ho : o ∈ spr fr sets its0) (hX : symI fr (o.1, o.2.1) = some (ruA fr q.1).1) : (o.1, o.2.1 + 1, o.2.2) ∈ spr fr sets its0 := by
  obtain ⟨i, hi⟩ := List.getElem?_of_mem hq
  obtain ⟨j, hj⟩ := List.getElem?_of_mem ho
  obtain ⟨a1, a2⟩ := spr_step hs hn h0 hi
  obtain ⟨b1, b2⟩ := spr_step hs hn h0 hj
  have hnone : symI fr (q.1, q.2.1) = none := by
    unfold symI
    exact List.getElem?_eq_none_iff.mpr (by show (ruA fr q.1).2.length ≤ q.2.1; omega)
  by_cases hlt : j ≤ i
  · -- the item stood when the complete one was looked at
    refine a2 _ ?_
    have hm : o ∈ sprN fr sets its0 i := by
      obtain ⟨s, e⟩ := sprN_mono (fr := fr) (sets := sets) its0 hlt
      rw [e]
      exact List.mem_append_left _ (List.mem_of_getElem? b1)
    unfold more3
    rw [hnone]
    dsimp only
    rw [if_neg (by omega)]
    exact List.mem_map.mpr ⟨o, List.mem_filter.mpr ⟨hm, decide_eq_true hX⟩, rfl⟩
  · -- the complete one stood when the item was looked at
    refine b2 _ ?_
    have hm : q ∈ sprN fr sets its0 j := by
      obtain ⟨s, e⟩ := sprN_mono (fr := fr) (sets := sets) its0 (i := i) (j := j) (by omega)
      rw [e]
      exact List.mem_append_left _ (List.mem_of_getElem? a1)
    unfold more3
    rw [hX]
    dsimp only
    exact List.mem_append_right _ (List.mem_map.mpr ⟨q, List.mem_filter.mpr ⟨hm, decide_eq_true ⟨hh, hf, rfl⟩⟩, rfl⟩)
theorem spr_ind (hs : SetsOk fr sets) {its0 : List I3} (hn : its0.Nodup) (h0 : ∀ q ∈ its0, Ok3 fr sets q) (P : I3 → Prop) (hb : ∀ q ∈ its0, P q)
    (hp : ∀ q X k, P q → symI fr (q.1, q.2.1) = some X → k < fr.length → (ruA fr k).1 = X → P (k, 0, sets.length))
    (hh : ∀ q o, P q → P o → q.2.1 = (ruA fr q.1).2.length → q.2.2 = sets.length → symI fr (o.1, o.2.1) = some (ruA fr q.1).1 → P (o.1, o.2.1 + 1, o.2.2))
    (hc : ∀ q s o, P q → q.2.1 = (ruA fr q.1).2.length → sets[q.2.2]? = some s → o ∈ s → symI fr (o.1, o.2.1) = some (ruA fr q.1).1 → P (o.1, o.2.1 + 1, o.2.2)) : ∀ q ∈ spr fr sets its0, P q := by
  have key : ∀ i, ∀ q ∈ sprN fr sets its0 i, P q := by
    intro i
    induction i with
    | zero => exact hb
    | succ i ih =>
      intro x hx
      rw [sprN_succ] at hx
      split at hx
      · exact ih x hx
      · rename_i q hq
        have hqm := List.mem_of_getElem? hq
        have hP := ih q hqm
        have hok := (sprN_ok hs hn h0 i).2 q hqm
        rcases (addF_mem _).mp hx with hx | hx
        · exact ih x hx
        · unfold more3 at hx
          split at hx
          · rename_i X hX
            rcases List.mem_append.mp hx with hx | hx
            · obtain ⟨k, hk, rfl⟩ := List.mem_map.mp hx
              obtain ⟨k1, k2⟩ := List.mem_filter.mp hk
              exact hp q X k hP hX (List.mem_range.mp k1) (of_decide_eq_true k2)
            · obtain ⟨d, hd, rfl⟩ := List.mem_map.mp hx
              obtain ⟨d1, d2⟩ := List.mem_filter.mp hd
              have d2 : d.2.2 = sets.length ∧ d.2.1 = (ruA fr d.1).2.length ∧ (ruA fr d.1).1 = X := of_decide_eq_true d2
              exact hh d q (ih d d1) hP d2.2.1 d2.1 (by rw [hX, d2.2.2])
          · rename_i hnone
            have hf : q.2.1 = (ruA fr q.1).2.length := by
              have h1 := hok.2.1
              have h2 : (ruA fr q.1).2.length ≤ q.2.1 := List.getElem?_eq_none_iff.mp hnone
              omega
            obtain ⟨o, ho, rfl⟩ := List.mem_map.mp hx
            obtain ⟨o1, o2⟩ := List.mem_filter.mp ho
            have o2 : symI fr (o.1, o.2.1) = some (ruA fr q.1).1 := of_decide_eq_true o2
            split at o1
            · rename_i hlt
              rw [List.getD_eq_getElem?_getD, List.getElem?_eq_getElem hlt] at o1
              exact hc q _ o hP hf (List.getElem?_eq_getElem hlt) o1 o2
            · rename_i hlt
              have := hok.2.2
              exact hh q o hP (ih o o1) hf (by omega) o2
  exact key _
end
end LW
namespace LW
open PySem L2 DL
inductive DerS (fr : List Rl) : List Str → List Str → Prop
  | nil : DerS fr [] []
  | sg {x : Str} {q w : List Str} : sgB x = true → DerS fr q w → DerS fr (x :: q) (x :: w)
  | nm {k : Nat} {q u v : List Str} : k < fr.length → DerS fr (ruA fr k).2 u → DerS fr q v → DerS fr ((ruA fr k).1 :: q) (u ++ v)
theorem DerS.app {fr : List Rl} {p q u v : List Str} (h : DerS fr p u) (h2 : DerS fr q v) : DerS fr (p ++ q) (u ++ v) := by
  induction h with
  | nil => exact h2
  | sg hs _ ih => exact .sg hs ih
  | nm hk hp _ _ ih => rw [List.cons_append, List.append_assoc]; exact .nm hk hp ih
inductive Act (fr : List Rl) : List Str → Nat → Prop
  | st : Act fr [] (fr.length - 1)
  | go {u v : List Str} {r d k : Nat} : Act fr u r → DerS fr ((ruA fr r).2.take d) v → symI fr (r, d) = some (ruA fr k).1 → k < fr.length → Act fr (u ++ v) k
structure It3 (fr : List Rl) (t : List Str) (q : I3) : Prop where
  lt : q.1 < fr.length
  le : q.2.1 ≤ (ruA fr q.1).2.length
  og : q.2.2 ≤ t.length
  ac : Act fr (t.take q.2.2) q.1
  dr : DerS fr ((ruA fr q.1).2.take q.2.1) (t.drop q.2.2)
section
variable (fr : List Rl)
def scan0 (s : List I3) (x : Str) : List I3 := (s.filter fun q => decide (symI fr (q.1, q.2.1) = some x)).map fun q => (q.1, q.2.1 + 1, q.2.2)
def chS (sets : List (List I3)) (x : Str) : List (List I3) := sets ++ [spr fr sets (scan0 fr (sets.getLastD []) x)]
def chart (t : List Str) : List (List I3) := t.foldl (chS fr) [spr fr [] [(fr.length - 1, 0, 0)]]
def setOf (t : List Str) : List I3 := (chart fr t).getLastD []
end
section
variable {fr : List Rl}
theorem chart_snoc (t : List Str) (x : Str) : chart fr (t ++ [x]) = chart fr t ++ [spr fr (chart fr t) (scan0 fr (setOf fr t) x)] := by
  unfold chart
  rw [List.foldl_append]; rfl
theorem set_snoc (t : List Str) (x : Str) : setOf fr (t ++ [x]) = spr fr (chart fr t) (scan0 fr (setOf fr t) x) := by
  unfold setOf
  rw [chart_snoc]
  simp [setOf]
theorem chart_len (t : List Str) : (chart fr t).length = t.length + 1 := by
  have key : ∀ (t : List Str) (s : List (List I3)), (t.foldl (chS fr) s).length = s.length + t.length := by
    intro t
    induction t with
    | nil => intro s; rfl
    | cons x t ih =>
      intro s
      rw [List.foldl_cons, ih]
      simp [chS]; omega
  unfold chart
  rw [key]
  simp; omega
theorem snoc_ind {P : List Str → Prop} (h0 : P []) (h1 : ∀ t x, P t → P (t ++ [x])) : ∀ t, P t := by
  have key : ∀ n t, t.length = n → P t := by
    intro n
    induction n with
    | zero => intro t ht; rw [List.length_eq_zero_iff.mp ht]; exact h0
    | succ n ih =>
      intro t ht
      have hne : t ≠ [] := fun z => by rw [z] at ht; simp at ht
      rw [← List.dropLast_concat_getLast hne]
      exact h1 _ _ (ih _ (by rw [List.length_dropLast]; omega))
  exact fun t => key t.length t rfl
theorem chart_at (t : List Str) : ∀ m, m ≤ t.length → (chart fr t)[m]? = some (setOf fr (t.take m)) := by
  refine snoc_ind (P := fun t => ∀ m, m ≤ t.length → (chart fr t)[m]? = some (setOf fr (t.take m))) ?_ ?_ t
  · intro m hm
    have : m = 0 := by simpa using hm
    subst this; rfl
  · intro t x ih m hm
    by_cases e : m ≤ t.length
    · rw [chart_snoc, List.getElem?_append_left (by rw [chart_len]; omega), ih m e, List.take_append_of_le_length e]
    · have e : m = t.length + 1 := by simp at hm; omega
      subst e
      rw [chart_snoc, List.getElem?_append_right (by rw [chart_len]; omega), chart_len, Nat.sub_self, List.take_of_length_le (by simp), set_snoc]
      rfl
structure FrS (fr : List Rl) : Prop where
  ne : 0 < fr.length
  nm : ∀ r ∈ fr, sgB r.1 = false
theorem scan0_nd {s : List I3} (h : s.Nodup) (x : Str) : (scan0 fr s x).Nodup := by
  unfold scan0
  refine List.Pairwise.map _ (R := fun a b => a ≠ b) (fun a b hab e => hab ?_) (h.filter _)
  simp only [Prod.mk.injEq] at e
  exact Prod.ext e.1 (Prod.ext (by omega) e.2.2)
theorem chart_ok (f : FrS fr) (t : List Str) : SetsOk fr (chart fr t) := by
  refine snoc_ind (P := fun t => SetsOk fr (chart fr t)) ?_ ?_ t
  · intro n s hs
    have hn : n = 0 := by
      have := (List.getElem?_eq_some_iff.mp hs).1
      rw [chart_len] at this; simp at this; exact this
    subst hn
    have e : spr fr [] [(fr.length - 1, 0, 0)] = s := Option.some.inj hs
    have f1 := f.ne
    have h := sprN_ok (fr := fr) (sets := []) (its0 := [(fr.length - 1, 0, 0)]) (fun n s z => by cases z) (by simp) (fun q hq => by
      simp only [List.mem_singleton] at hq
      rw [hq]
      exact ⟨by show fr.length - 1 < fr.length; omega, Nat.zero_le _, Nat.zero_le _⟩) (all3 fr []).length
    rw [← e]
    exact ⟨h.1, fun q hq => h.2 q hq⟩
  · intro t x ih n s hs
    rw [chart_snoc] at hs
    by_cases e : n < (chart fr t).length
    · rw [List.getElem?_append_left e] at hs
      exact ih n s hs
    · have h1 := (List.getElem?_eq_some_iff.mp hs).1
      have e : n = (chart fr t).length := by simp at h1; omega
      subst e
      rw [List.getElem?_append_right (Nat.le_refl _), Nat.sub_self] at hs
      have e2 : spr fr (chart fr t) (scan0 fr (setOf fr t) x) = s := Option.some.inj hs
      have hlast := chart_at (fr := fr) t t.length (Nat.le_refl _)
      rw [List.take_of_length_le (Nat.le_refl _)] at hlast
      obtain ⟨l1, l2⟩ := ih t.length _ hlast
      have h := sprN_ok ih (its0 := scan0 fr (setOf fr t) x) (scan0_nd l1 x) (fun q hq => by
        obtain ⟨o, ho, rfl⟩ := List.mem_map.mp hq
        obtain ⟨o1, o2⟩ := List.mem_filter.mp ho
        have o2 : symI fr (o.1, o.2.1) = some x := of_decide_eq_true o2
        obtain ⟨a, b, c⟩ := l2 o o1
        exact ⟨a, (List.getElem?_eq_some_iff.mp o2).1, by rw [chart_len]; show o.2.2 ≤ t.length + 1; omega⟩) (all3 fr (chart fr t)).length
      rw [← e2]
      exact ⟨h.1, fun q hq => h.2 q hq⟩
end
end LW
namespace LW
open PySem L2 DL
variable {fr : List Rl}
structure AsSpr (fr : List Rl) (t : List Str) (sets : List (List I3)) (its0 : List I3) : Prop where
  e : setOf fr t = spr fr sets its0
  so : SetsOk fr sets
  len : sets.length = t.length
  nd : its0.Nodup
  ok : ∀ q ∈ its0, Ok3 fr sets q
  at_ : ∀ j, j < t.length → sets[j]? = some (setOf fr (t.take j))
  base : ∀ q, q ∈ its0 ↔ (t = [] ∧ q = (fr.length - 1, 0, 0)) ∨ ∃ t' x o, t = t' ++ [x] ∧ o ∈ setOf fr t' ∧ symI fr (o.1, o.2.1) = some x ∧ q = (o.1, o.2.1 + 1, o.2.2)
theorem as_spr (f : FrS fr) (t : List Str) : ∃ sets its0, AsSpr fr t sets its0 := by
  by_cases ht : t = []
  · subst ht
    have f1 := f.ne
    refine ⟨[], [(fr.length - 1, 0, 0)], rfl, fun n s z => (by cases z), rfl, by simp, fun q hq => ?_, fun j hj => by simp at hj, fun q => ?_⟩
    · simp only [List.mem_singleton] at hq
      rw [hq]
      exact ⟨by show fr.length - 1 < fr.length; omega, Nat.zero_le _, Nat.zero_le _⟩
    · rw [List.mem_singleton]
      constructor
      · intro h; exact .inl ⟨rfl, h⟩
      · rintro (⟨_, h⟩ | ⟨t', x, o, h, _⟩)
        · exact h
        · simp at h
  · have e := List.dropLast_concat_getLast ht
    generalize t.dropLast = u at e
    generalize t.getLast ht = x at e
    subst e
    have so := chart_ok f u
    have hlast := chart_at (fr := fr) u u.length (Nat.le_refl _)
    rw [List.take_of_length_le (Nat.le_refl _)] at hlast
    obtain ⟨l1, l2⟩ := so u.length _ hlast
    refine ⟨chart fr u, scan0 fr (setOf fr u) x, set_snoc u x, so, by rw [chart_len]; simp, scan0_nd l1 x, fun q hq => ?_, fun j hj => ?_, fun q => ?_⟩
    · obtain ⟨o, ho, rfl⟩ := List.mem_map.mp hq
      obtain ⟨o1, o2⟩ := List.mem_filter.mp ho
      have o2 : symI fr (o.1, o.2.1) = some x := of_decide_eq_true o2
      obtain ⟨a, b, c⟩ := l2 o o1
      exact ⟨a, (List.getElem?_eq_some_iff.mp o2).1, by rw [chart_len]; show o.2.2 ≤ u.length + 1; omega⟩
    · have hj : j ≤ u.length := by simp at hj; omega
      rw [chart_at u j hj, List.take_append_of_le_length hj]
    · constructor
      · intro hq
        obtain ⟨o, ho, rfl⟩ := List.mem_map.mp hq
        obtain ⟨o1, o2⟩ := List.mem_filter.mp ho
        exact .inr ⟨u, x, o, rfl, o1, of_decide_eq_true o2, rfl⟩
      · rintro (⟨h, _⟩ | ⟨t', x', o, h, ho, hx, rfl⟩)
        · simp at h
        · obtain ⟨h1, h2⟩ := List.append_inj' h rfl
          have h2 : x = x' := by simpa using h2
          subst h1; subst h2
          exact List.mem_map.mpr ⟨o, List.mem_filter.mpr ⟨ho, decide_eq_true hx⟩, rfl⟩
theorem take_succ_sym {r d : Nat} {X : Str} (h : symI fr (r, d) = some X) : (ruA fr r).2.take (d + 1) = (ruA fr r).2.take d ++ [X] := by
  have h : (ruA fr r).2[d]? = some X := h
  rw [List.take_add_one, h]; rfl
theorem drop_take_drop (t : List Str) {i j : Nat} (h : i ≤ j) : (t.take j).drop i ++ t.drop j = t.drop i := by
  rw [List.drop_take]
  have e : t.drop j = (t.drop i).drop (j - i) := by rw [List.drop_drop]; congr 1; omega
  rw [e, List.take_append_drop]
theorem chart_sound (f : FrS fr) : ∀ (n : Nat) (t : List Str), t.length = n → (∀ x ∈ t, sgB x = true) → ∀ q ∈ setOf fr t, It3 fr t q := by
  intro n
  induction n using Nat.strongRecOn with
  | _ n ih =>
    intro t ht hsg q hq
    obtain ⟨sets, its0, A⟩ := as_spr f t
    rw [A.e] at hq
    refine spr_ind A.so A.nd A.ok (It3 fr t) ?_ ?_ ?_ ?_ q hq
    · -- the base
      intro q hq
      rcases (A.base q).mp hq with ⟨rfl, rfl⟩ | ⟨t', x, o, rfl, ho, hx, rfl⟩
      · have f1 := f.ne
        exact ⟨by show fr.length - 1 < fr.length; omega, Nat.zero_le _, Nat.zero_le _, .st, .nil⟩
      · have h1 := ih t'.length (by rw [← ht]; simp) t' rfl (fun y hy => hsg y (List.mem_append_left _ hy)) o ho
        refine ⟨h1.lt, (List.getElem?_eq_some_iff.mp hx).1, by have := h1.og; simp; omega, ?_, ?_⟩
        · show Act fr ((t' ++ [x]).take o.2.2) o.1
          rw [List.take_append_of_le_length h1.og]
          exact h1.ac
        · show DerS fr ((ruA fr o.1).2.take (o.2.1 + 1)) ((t' ++ [x]).drop o.2.2)
          rw [take_succ_sym hx, List.drop_append_of_le_length h1.og]
          exact h1.dr.app (.sg (hsg x (by simp)) .nil)
    · -- predicted
      intro q X k hP hX hk e
      refine ⟨hk, Nat.zero_le _, by show sets.length ≤ t.length; rw [A.len]; exact Nat.le_refl _, ?_, ?_⟩
      · show Act fr (t.take sets.length) k
        rw [A.len, List.take_of_length_le (Nat.le_refl _)]
        have := Act.go hP.ac hP.dr (k := k) (by rw [hX, e]) hk
        rw [List.take_append_drop] at this
        exact this
      · show DerS fr ((ruA fr k).2.take 0) (t.drop sets.length)
        rw [A.len, List.drop_of_length_le (Nat.le_refl _), List.take_zero]
        exact .nil
    · -- completed, begun here
      intro q o hq ho hf hh hX
      refine ⟨ho.lt, (List.getElem?_eq_some_iff.mp hX).1, ho.og, ho.ac, ?_⟩
      show DerS fr ((ruA fr o.1).2.take (o.2.1 + 1)) (t.drop o.2.2)
      rw [take_succ_sym hX]
      have h1 := hq.dr
      rw [hf, List.take_of_length_le (Nat.le_refl _), hh, A.len, List.drop_of_length_le (Nat.le_refl _)] at h1
      have := ho.dr.app (DerS.nm hq.lt h1 .nil)
      simpa using this
    · -- completed, begun earlier
      intro q s o hq hf hs ho hX
      have hlt := (List.getElem?_eq_some_iff.mp hs).1
      rw [A.len] at hlt
      rw [A.at_ _ hlt] at hs
      have hs := Option.some.inj hs
      subst hs
      have h1 := ih (t.take q.2.2).length (by rw [List.length_take]; omega) _ rfl (fun y hy => hsg y (List.mem_of_mem_take hy)) o ho
      have hog := h1.og
      rw [List.length_take] at hog
      refine ⟨h1.lt, (List.getElem?_eq_some_iff.mp hX).1, by show o.2.2 ≤ t.length; omega, ?_, ?_⟩
      · have := h1.ac
        rw [List.take_take, Nat.min_eq_left (by omega)] at this
        exact this
      · show DerS fr ((ruA fr o.1).2.take (o.2.1 + 1)) (t.drop o.2.2)
        rw [take_succ_sym hX, ← drop_take_drop t (i := o.2.2) (j := q.2.2) (by omega)]
        have h2 := hq.dr
        rw [hf, List.take_of_length_le (Nat.le_refl _)] at h2
        have := h1.dr.app (DerS.nm hq.lt h2 .nil)
        simpa using this
theorem set_pred (f : FrS fr) {t : List Str} {q : I3} (hq : q ∈ setOf fr t) {k : Nat} (hk : k < fr.length) (hX : symI fr (q.1, q.2.1) = some (ruA fr k).1) : (k, 0, t.length) ∈ setOf fr t := by
  obtain ⟨sets, its0, A⟩ := as_spr f t
  rw [A.e] at hq ⊢
  rw [← A.len]
  exact spr_pred A.so A.nd A.ok hq hX hk rfl
theorem set_done (f : FrS fr) {t u : List Str} {q : I3} (hq : q ∈ setOf fr (t ++ u)) (hf : q.2.1 = (ruA fr q.1).2.length) (hj : q.2.2 = t.length) {o : I3} (ho : o ∈ setOf fr t) (hX : symI fr (o.1, o.2.1) = some (ruA fr q.1).1) : (o.1, o.2.1 + 1, o.2.2) ∈ setOf fr (t ++ u) := by
  obtain ⟨sets, its0, A⟩ := as_spr f (t ++ u)
  rw [A.e] at hq ⊢
  by_cases hu : u = []
  · subst hu
    rw [List.append_nil] at A
    rw [A.e] at ho
    exact spr_here A.so A.nd A.ok hq hf (by rw [hj, A.len]) ho hX
  · have hul : 0 < u.length := List.length_pos_iff.mpr hu
    have h1 := A.at_ t.length (by rw [List.length_append]; omega)
    rw [List.take_append_of_le_length (Nat.le_refl _), List.take_of_length_le (Nat.le_refl _)] at h1
    exact spr_comp A.so A.nd A.ok hq hf (by rw [hj]; exact h1) ho hX
theorem set_scan (f : FrS fr) {t : List Str} {x : Str} {o : I3} (ho : o ∈ setOf fr t) (hX : symI fr (o.1, o.2.1) = some x) : (o.1, o.2.1 + 1, o.2.2) ∈ setOf fr (t ++ [x]) := by
  obtain ⟨sets, its0, A⟩ := as_spr f (t ++ [x])
  rw [A.e]
  exact spr_base its0 _ ((A.base _).mpr (.inr ⟨t, x, o, rfl, ho, hX, rfl⟩))
theorem set_adv (f : FrS fr) {mid v : List Str} (h : DerS fr mid v) : ∀ (r d o : Nat) (t : List Str), (r, d, o) ∈ setOf fr t → (∃ rest, (ruA fr r).2.drop d = mid ++ rest) → (r, d + mid.length, o) ∈ setOf fr (t ++ v) := by
  induction h with
  | nil => intro r d o t ht _; simpa using ht
  | @sg x q w hs _ ih =>
    intro r d o t ht ⟨rest, hr⟩
    have hX : symI fr (r, d) = some x := by
      show (ruA fr r).2[d]? = some x
      have : ((ruA fr r).2.drop d)[0]? = some x := by rw [hr]; rfl
      rwa [List.getElem?_drop, Nat.add_zero] at this
    have h1 := set_scan f ht (x := x) hX
    have h2 := ih r (d + 1) o (t ++ [x]) h1 ⟨rest, by
      rw [← List.drop_drop, hr]; rfl⟩
    rw [List.append_assoc] at h2
    have e : d + 1 + q.length = d + (x :: q).length := by simp; omega
    rw [e] at h2
    exact h2
  | @nm k q u v hk hp _ ih1 ih2 =>
    intro r d o t ht ⟨rest, hr⟩
    have hX : symI fr (r, d) = some (ruA fr k).1 := by
      show (ruA fr r).2[d]? = some (ruA fr k).1
      have : ((ruA fr r).2.drop d)[0]? = some (ruA fr k).1 := by rw [hr]; rfl
      rwa [List.getElem?_drop, Nat.add_zero] at this
    have h1 := set_pred f ht hk hX
    have h2 := ih1 k 0 t.length t h1 ⟨[], by simp⟩
    have h3 := set_done f (t := t) (u := u) h2 (by simp) rfl ht hX
    have h4 := ih2 r (d + 1) o (t ++ u) h3 ⟨rest, by rw [← List.drop_drop, hr]; rfl⟩
    rw [List.append_assoc] at h4
    have e : d + 1 + q.length = d + ((ruA fr k).1 :: q).length := by simp; omega
    rw [e] at h4
    exact h4
theorem set_act (f : FrS fr) {u : List Str} {r : Nat} (h : Act fr u r) : (r, 0, u.length) ∈ setOf fr u := by
  induction h with
  | st =>
    obtain ⟨sets, its0, A⟩ := as_spr f []
    rw [A.e]
    exact spr_base its0 _ ((A.base _).mpr (.inl ⟨rfl, rfl⟩))
  | @go u v r d k _ hd hX hk ih =>
    have hl : d < (ruA fr r).2.length := (List.getElem?_eq_some_iff.mp hX).1
    have h1 := set_adv f hd r 0 u.length u ih ⟨(ruA fr r).2.drop d, by simp⟩
    have e : 0 + ((ruA fr r).2.take d).length = d := by rw [List.length_take]; omega
    rw [e] at h1
    exact set_pred f h1 hk hX
theorem chart_iff (f : FrS fr) {t : List Str} (hsg : ∀ x ∈ t, sgB x = true) {q : I3} : q ∈ setOf fr t ↔ It3 fr t q := by
  constructor
  · exact chart_sound f t.length t rfl hsg q
  · intro h
    have h1 := set_act f h.ac
    have hlen : (t.take q.2.2).length = q.2.2 := by rw [List.length_take]; have := h.og; omega
    have h2 := set_adv f h.dr q.1 0 _ _ h1 ⟨(ruA fr q.1).2.drop q.2.1, by simp⟩
    rw [List.take_append_drop, hlen] at h2
    have e : 0 + ((ruA fr q.1).2.take q.2.1).length = q.2.1 := by rw [List.length_take]; have := h.le; omega
    rw [e] at h2
    exact h2
end LW
namespace LW
open PySem L2 DL
theorem ruA_at {rs : List Rl} {k : Nat} (h : k < rs.length) : ruA rs k = rs[k] := by
  unfold ruA
  rw [getD_at (List.getElem?_eq_getElem h)]
theorem ruA_of {rs : List Rl} {r : Rl} (h : r ∈ rs) : ∃ k, k < rs.length ∧ ruA rs k = r := by
  obtain ⟨k, hk, e⟩ := List.mem_iff_getElem.mp h
  exact ⟨k, hk, by rw [ruA_at hk, e]⟩
theorem DerS.rule {rs : List Rl} {X : Str} {p u : List Str} (h : (X, p) ∈ rs) (d : DerS rs p u) : DerS rs [X] u := by
  obtain ⟨k, hk, e⟩ := ruA_of h
  have e1 : (ruA rs k).1 = X := by rw [e]
  have e2 : (ruA rs k).2 = p := by rw [e]
  rw [← e2] at d
  have := DerS.nm hk d .nil
  rw [e1, List.append_nil] at this
  exact this
theorem valW_der {rs : List Rl} {f : Str → Option Wd} (h : ∀ X a, f X = some a → DerS rs [X] a) : ∀ {q : List Str} {w : Wd}, valW f q = some w → DerS rs q w
  | [], w, e => by
    have e : some [] = some w := e
    cases e; exact .nil
  | x :: q, w, e => by
    obtain ⟨a, b, h1, h2, rfl⟩ := valW_cons e
    have ih := valW_der h h2
    unfold symW at h1
    by_cases hs : sgB x = true
    · rw [if_pos hs] at h1
      cases h1
      exact .sg hs ih
    · rw [if_neg hs] at h1
      exact (h x a h1).app ih
theorem Ln_der {rs : List Rl} : ∀ (n : Nat) (X : Str) (w : Wd), Ln rs n X = some w → DerS rs [X] w
  | 0, X, w, e => by cases e
  | n + 1, X, w, e => by
    rcases fold_or (X := X) (f := Ln rs n) rs (Ln rs n X) with e1 | ⟨q, hq, e1⟩
    · have e2 : Ln rs (n + 1) X = Ln rs n X := e1
      rw [e2] at e
      exact Ln_der n X w e
    · have e2 : Ln rs (n + 1) X = valW (Ln rs n) q := e1
      rw [e2] at e
      exact .rule hq (valW_der (fun Y a => Ln_der n Y a) e)
theorem valW_up {rs : List Rl} {n m : Nat} (h : n ≤ m) {q : List Str} {u : Wd} (e : valW (Ln rs n) q = some u) : ∃ v, valW (Ln rs m) q = some v ∧ wle v u := valW_mono (fun x => Ln_mono rs x h) q u e
theorem der_Ln {rs : List Rl} (hn : ∀ r ∈ rs, sgB r.1 = false) {q w : List Str} (h : DerS rs q w) : ∃ n u, valW (Ln rs n) q = some u ∧ wle u w := by
  induction h with
  | nil => exact ⟨0, [], rfl, wle_refl _⟩
  | @sg x q w hs _ ih =>
    obtain ⟨n, u, h1, h2⟩ := ih
    refine ⟨n, [x] ++ u, valW_of (by unfold symW; rw [if_pos hs]) h1, ?_⟩
    exact wle_app (wle_refl [x]) h2
  | @nm k q u v hk _ _ ih1 ih2 =>
    obtain ⟨n1, u1, h1, h2⟩ := ih1
    obtain ⟨n2, u2, h3, h4⟩ := ih2
    have hm : ((ruA rs k).1, (ruA rs k).2) ∈ rs := by rw [ruA_at hk]; exact List.getElem_mem hk
    obtain ⟨w1, k1, k2⟩ := Ln_rule rs n1 hm u1 h1
    obtain ⟨w1', k3, k4⟩ := Ln_mono rs (ruA rs k).1 (n := n1 + 1) (m := n1 + 1 + n2) (by omega) w1 k1
    obtain ⟨w2, k5, k6⟩ := valW_up (rs := rs) (n := n2) (m := n1 + 1 + n2) (by omega) h3
    refine ⟨n1 + 1 + n2, w1' ++ w2, valW_of (by
      unfold symW
      rw [if_neg (fun z => by have z : sgB (ruA rs k).1 = true := z; have := hn _ hm; rw [z] at this; cases this)]; exact k3) k5, wle_app (wle_tr k4 (wle_tr k2 h2)) (wle_tr k6 h4)⟩
theorem least_der {rs : List Rl} {X : Str} {w : Wd} (h : getA (least rs) X = some w) : DerS rs [X] w := by
  rw [least_Ln] at h
  exact Ln_der _ X w h
theorem der_least {rs : List Rl} (hn : ∀ r ∈ rs, sgB r.1 = false) {X : Str} (hX : sgB X = false) {w : Wd} (h : DerS rs [X] w) : ∃ u, getA (least rs) X = some u ∧ wle u w := by
  obtain ⟨n, u, h1, h2⟩ := der_Ln hn h
  obtain ⟨a, b, k1, k2, rfl⟩ := valW_cons h1
  have k2 : some [] = some b := k2
  cases k2
  rw [List.append_nil] at h2
  unfold symW at k1
  rw [if_neg (fun z => by have z : sgB X = true := z; rw [hX] at z; cases z)] at k1
  rw [least_Ln]
  by_cases hle : n ≤ rs.length
  · obtain ⟨v, a1, a2⟩ := Ln_mono rs X hle a k1
    exact ⟨v, a1, wle_tr a2 h2⟩
  · have := Ln_all (rs := rs) (NL := rs.map (·.1)) (fun r hr => List.mem_map.mpr ⟨r, hr, rfl⟩) (n := n) (by simp; omega) X
    rw [List.length_map] at this
    exact ⟨a, by rw [← this]; exact k1, h2⟩
inductive Fst (fr : List Rl) : List Str → Str → Prop
  | sg {x : Str} {q : List Str} : sgB x = true → Fst fr (x :: q) x
  | nm {k : Nat} {q : List Str} {x : Str} : k < fr.length → Fst fr (ruA fr k).2 x → Fst fr ((ruA fr k).1 :: q) x
  | sk {X : Str} {q : List Str} {x : Str} : DerS fr [X] [] → Fst fr q x → Fst fr (X :: q) x
theorem DerS.split {fr : List Rl} {p q w : List Str} : DerS fr (p ++ q) w → ∃ u v, w = u ++ v ∧ DerS fr p u ∧ DerS fr q v := by
  intro h
  generalize hs : p ++ q = s at h
  induction h generalizing p with
  | nil =>
    obtain ⟨rfl, rfl⟩ := List.append_eq_nil_iff.mp hs
    exact ⟨[], [], rfl, .nil, .nil⟩
  | @sg x r w hx hd ih =>
    cases p with
    | nil =>
      have hs : q = x :: r := hs
      exact ⟨[], x :: w, rfl, .nil, by rw [hs]; exact .sg hx hd⟩
    | cons y p =>
      rw [List.cons_append, List.cons.injEq] at hs
      obtain ⟨u, v, e, h1, h2⟩ := ih hs.2
      exact ⟨x :: u, v, by rw [e]; rfl, by rw [hs.1]; exact .sg hx h1, h2⟩
  | @nm k r u v hk hp hr _ ih =>
    cases p with
    | nil =>
      have hs : q = (ruA fr k).1 :: r := hs
      exact ⟨[], u ++ v, rfl, .nil, by rw [hs]; exact .nm hk hp hr⟩
    | cons y p =>
      rw [List.cons_append, List.cons.injEq] at hs
      obtain ⟨u', v', e, h1, h2⟩ := ih hs.2
      exact ⟨u ++ u', v', by rw [e, List.append_assoc], by rw [hs.1]; exact .nm hk hp h1, h2⟩
theorem DerS.nil_all {fr : List Rl} {q : List Str} (h : DerS fr q []) : ∀ X ∈ q, DerS fr [X] [] := by
  intro X hX
  obtain ⟨a, b, rfl⟩ := List.append_of_mem hX
  obtain ⟨u, v, e, _, h2⟩ := DerS.split h
  obtain ⟨_, hv⟩ := List.append_eq_nil_iff.mp e.symm
  subst hv
  have h2 : DerS fr ([X] ++ b) [] := h2
  obtain ⟨u', v', e', h3, _⟩ := DerS.split h2
  obtain ⟨hu, _⟩ := List.append_eq_nil_iff.mp e'.symm
  rw [hu] at h3; exact h3
theorem DerS.nil_of {fr : List Rl} : ∀ {q : List Str}, (∀ X ∈ q, DerS fr [X] []) → DerS fr q []
  | [], _ => .nil
  | X :: q, h => by
    have := (h X List.mem_cons_self).app (DerS.nil_of (q := q) fun Y hY => h Y (.tail _ hY))
    simpa using this
theorem Fst.skip {fr : List Rl} {p q : List Str} {x : Str} (h : DerS fr p []) (hq : Fst fr q x) : Fst fr (p ++ q) x := by
  have h' := h.nil_all
  clear h
  induction p with
  | nil => exact hq
  | cons X p ih => exact .sk (h' X List.mem_cons_self) (ih fun Y hY => h' Y (.tail _ hY))
end LW
namespace LW
open PySem L2 DL
def i3D (q : I3) : D := .tup [.int (q.1 : Nat), .int (q.2.1 : Nat), .int (q.2.2 : Nat)]
def setD (s : List I3) : D := .lst (s.map i3D)
abbrev EP (fr : List Rl) (sets : List (List I3)) (v2 v3 v4 v5 v6 v7 v8 v9 v10 v11 v12 v13 v14 : SL) : DL.Env := [.val (.lst (fr.map rL)), .val (.lst (sets.map setD)), v2, v3, v4, v5, v6, v7, v8, v9, v10, v11, v12, v13, v14]
end LW
namespace LW
open PySem L2 DL
end LW
namespace LW
open PySem L2 DL
end LW
namespace LW
open PySem L2 DL
end LW
namespace LW
open PySem L2 DL
end LW
namespace LW
open PySem L2 DL
variable {rs : List Rl}
theorem lead_spec {fs ls : As} {F : Str → Str → Prop} {N : Str → Prop} (hF : ∀ X f, getA fs X = some f → ∀ x, x ∈ f ↔ F X x) (hN : ∀ X w, getA ls X = some w → (w = [] ↔ N X)) :
    ∀ {q acc l : List Str}, lead fs ls q acc = some l → ∀ x, x ∈ l ↔ x ∈ acc ∨ (∃ p y r, q = p ++ y :: r ∧ (∀ X ∈ p, sgB X = false ∧ N X) ∧ ((sgB y = true ∧ x = y) ∨ (sgB y = false ∧ F y x))) ∨ ((∀ X ∈ q, sgB X = false ∧ N X) ∧ x = "$")
  | [], acc, l, h, x => by
    have h : some (acc ++ [("$" : Str)]) = some l := h
    cases h
    rw [List.mem_append, List.mem_singleton]
    constructor
    · rintro (h | h)
      · exact .inl h
      · exact .inr (.inr ⟨(fun X hX => by cases hX), h⟩)
    · rintro (h | ⟨p, y, r, h, _⟩ | ⟨_, h⟩)
      · exact .inl h
      · simp at h
      · exact .inr h
  | Y :: q, acc, l, h, x => by
    unfold lead at h
    by_cases hs : sgB Y = true
    · rw [if_pos hs] at h
      cases h
      rw [List.mem_append, List.mem_singleton]
      constructor
      · rintro (h | h)
        · exact .inl h
        · exact .inr (.inl ⟨[], Y, q, rfl, (fun X hX => by cases hX), .inl ⟨hs, h⟩⟩)
      · rintro (h | ⟨p, y, r, h, hp, hy⟩ | ⟨h, _⟩)
        · exact .inl h
        · cases p with
          | nil =>
            rw [List.nil_append, List.cons.injEq] at h
            rcases hy with hy | hy
            · right; rw [hy.2, ← h.1]
            · rw [← h.1, hs] at hy; cases hy.1
          | cons z p =>
            rw [List.cons_append, List.cons.injEq] at h
            have := (hp z List.mem_cons_self).1
            rw [← h.1, hs] at this; cases this
        · have := (h Y List.mem_cons_self).1
          rw [hs] at this; cases this
    · rw [if_neg hs] at h
      have hs : sgB Y = false := by simpa using hs
      cases hf : getA fs Y with
      | none => rw [hf] at h; cases h
      | some f =>
        cases hw : getA ls Y with
        | none => rw [hf, hw] at h; cases h
        | some w =>
          rw [hf, hw] at h
          dsimp only at h
          have kF := hF Y f hf x
          have kN := hN Y w hw
          split at h
          · rename_i hem
            cases h
            have hne : ¬ N Y := fun z => by rw [kN.mpr z] at hem; cases hem
            rw [List.mem_append, kF]
            constructor
            · rintro (h | h)
              · exact .inl h
              · exact .inr (.inl ⟨[], Y, q, rfl, (fun X hX => by cases hX), .inr ⟨hs, h⟩⟩)
            · rintro (h | ⟨p, y, r, h, hp, hy⟩ | ⟨h, _⟩)
              · exact .inl h
              · cases p with
                | nil =>
                  rw [List.nil_append, List.cons.injEq] at h
                  rcases hy with hy | hy
                  · rw [← h.1, hs] at hy; cases hy.1
                  · right; rw [h.1]; exact hy.2
                | cons z p =>
                  rw [List.cons_append, List.cons.injEq] at h
                  have := (hp z List.mem_cons_self).2
                  rw [← h.1] at this; exact (hne this).elim
              · exact (hne (h Y List.mem_cons_self).2).elim
          · rename_i hem
            have hY : N Y := kN.mp (by cases w with
              | nil => rfl
              | cons a b => exact absurd rfl hem)
            rw [lead_spec hF hN h x, List.mem_append, kF]
            constructor
            · rintro ((h | h) | ⟨p, y, r, h, hp, hy⟩ | ⟨h, e⟩)
              · exact .inl h
              · exact .inr (.inl ⟨[], Y, q, rfl, (fun X hX => by cases hX), .inr ⟨hs, h⟩⟩)
              · refine .inr (.inl ⟨Y :: p, y, r, by rw [h]; rfl, fun X hX => ?_, hy⟩)
                rcases List.mem_cons.mp hX with rfl | hX
                · exact ⟨hs, hY⟩
                · exact hp X hX
              · refine .inr (.inr ⟨fun X hX => ?_, e⟩)
                rcases List.mem_cons.mp hX with rfl | hX
                · exact ⟨hs, hY⟩
                · exact h X hX
            · rintro (h | ⟨p, y, r, h, hp, hy⟩ | ⟨h, e⟩)
              · exact .inl (.inl h)
              · cases p with
                | nil =>
                  rw [List.nil_append, List.cons.injEq] at h
                  rcases hy with hy | hy
                  · rw [← h.1, hs] at hy; cases hy.1
                  · left; right; rw [h.1]; exact hy.2
                | cons z p =>
                  rw [List.cons_append, List.cons.injEq] at h
                  exact .inr (.inl ⟨p, y, r, h.2, fun X hX => hp X (.tail _ hX), hy⟩)
              · exact .inr (.inr ⟨fun X hX => h X (.tail _ hX), e⟩)
end LW
namespace LW
open PySem L2 DL
variable {rs : List Rl}
theorem sg_dollar : sgB "$" = false := by decide +kernel
theorem Fst.sgn {fr : List Rl} {q : List Str} {x : Str} (h : Fst fr q x) : sgB x = true := by
  induction h with
  | sg h => exact h
  | nm _ _ ih => exact ih
  | sk _ _ ih => exact ih
theorem Fst.app {fr : List Rl} {q : List Str} {x : Str} (h : Fst fr q x) (r : List Str) : Fst fr (q ++ r) x := by
  induction h with
  | sg h => exact .sg h
  | nm hk h _ => exact .nm hk h
  | sk hd _ ih => exact .sk hd ih
theorem nil_nosg {fr : List Rl} (hn : ∀ r ∈ fr, sgB r.1 = false) {X : Str} (h : DerS fr [X] []) : sgB X = false := by
  generalize hp : [X] = p at h
  generalize hw : ([] : List Str) = w at h
  cases h with
  | nil => cases hp
  | sg _ _ => cases hw
  | @nm k q u v hk _ _ =>
    rw [List.cons.injEq] at hp
    rw [hp.1, ruA_at hk]
    exact hn _ (List.getElem_mem hk)
theorem wle_nil {u : Wd} (h : wle u []) : u = [] := by
  have := wle_len h
  exact List.length_eq_zero_iff.mp (Nat.le_zero.mp this)
theorem least_nil (hn : ∀ r ∈ rs, sgB r.1 = false) {X : Str} {w : Wd} (h : getA (least rs) X = some w) : w = [] ↔ DerS rs [X] [] := by
  constructor
  · rintro rfl; exact least_der h
  · intro d
    obtain ⟨u, h1, h2⟩ := der_least hn (nil_nosg hn d) d
    rw [h] at h1
    rw [Option.some.inj h1]
    exact wle_nil h2
def FsOk (rs : List Rl) (fs : As) : Prop := ∀ X f, getA fs X = some f → ∀ x ∈ f, Fst rs [X] x
theorem lead_sound (hn : ∀ r ∈ rs, sgB r.1 = false) {fs : As} (h : FsOk rs fs) {q l : List Str} (hl : lead fs (least rs) q [] = some l) {x : Str} (hx : x ∈ l) : Fst rs q x ∨ (x = "$" ∧ DerS rs q []) := by
  have := (lead_spec (fs := fs) (ls := least rs) (F := fun X x => ∃ f, getA fs X = some f ∧ x ∈ f) (N := fun X => DerS rs [X] []) (fun X f e x => ⟨fun h => ⟨f, e, h⟩, fun ⟨f', e', h⟩ => by rw [e] at e'; rw [Option.some.inj e']; exact h⟩) (fun X w e => least_nil hn e) hl x).mp hx
  rcases this with h1 | ⟨p, y, r, rfl, hp, hy⟩ | ⟨hq, hx⟩
  · cases h1
  · left
    refine Fst.skip (DerS.nil_of fun X hX => (hp X hX).2) ?_
    rcases hy with ⟨hs, rfl⟩ | ⟨_, f, e, hf⟩
    · exact .sg hs
    · exact (h y f e x hf).app r
  · exact .inr ⟨hx, DerS.nil_of fun X hX => (hq X hX).2⟩
theorem fsok_add {n : Str} {s : As × Bool} {x : Str} (h : FsOk rs s.1) (hx : x ≠ "$" → Fst rs [n] x) : FsOk rs (addF n s x).1 := by
  unfold addF
  cases hg : getA s.1 n with
  | none => exact h
  | some f =>
    dsimp only
    split
    · rename_i c
      intro X g e y hy
      have e : getA (putA s.1 n (f ++ [x])) X = some g := e
      rw [getA_put] at e
      split at e
      · rename_i hX
        cases e
        rw [hX]
        rcases List.mem_append.mp hy with hy | hy
        · exact h n f hg y hy
        · rw [List.mem_singleton] at hy
          rw [hy]; exact hx c.1
      · exact h X g e y hy
    · exact h
theorem fsok_adds {n : Str} : ∀ (l : List Str) (s : As × Bool), FsOk rs s.1 → (∀ x ∈ l, x ≠ "$" → Fst rs [n] x) → FsOk rs (l.foldl (addF n) s).1
  | [], s, h, _ => h
  | x :: l, s, h, hl => by
    rw [List.foldl_cons]
    exact fsok_adds l _ (fsok_add h (hl x List.mem_cons_self)) fun y hy => hl y (.tail _ hy)
theorem fsok_step (hn : ∀ r ∈ rs, sgB r.1 = false) {s : As × Bool} (h : FsOk rs s.1) {r : Rl} (hr : r ∈ rs) : FsOk rs (stepG (least rs) s r).1 := by
  unfold stepG
  cases hl : lead s.1 (least rs) r.2 [] with
  | none => exact h
  | some l =>
    refine fsok_adds l s h fun x hx hne => ?_
    rcases lead_sound hn h hl hx with k | ⟨k, _⟩
    · obtain ⟨i, hi, e⟩ := ruA_of hr
      have := Fst.nm (fr := rs) (q := []) hi (x := x) (by rw [e]; exact k)
      rw [e] at this
      exact this
    · exact absurd k hne
theorem fsok_fold (hn : ∀ r ∈ rs, sgB r.1 = false) : ∀ (l : List Rl) (s : As × Bool), (∀ r ∈ l, r ∈ rs) → FsOk rs s.1 → FsOk rs (l.foldl (stepG (least rs)) s).1
  | [], s, _, h => h
  | r :: l, s, hl, h => by
    rw [List.foldl_cons]
    exact fsok_fold hn l _ (fun q hq => hl q (.tail _ hq)) (fsok_step hn h (hl r List.mem_cons_self))
def Cl (rs : List Rl) (fs : As) : Prop := ∀ r ∈ rs, ∃ l, lead fs (least rs) r.2 [] = some l ∧ ∀ x ∈ l, x ≠ "$" → ∀ f, getA fs r.1 = some f → x ∈ f
theorem lead_acc {fs ls : As} : ∀ {q acc l : List Str}, lead fs ls q acc = some l → ∀ x ∈ acc, x ∈ l
  | [], acc, l, h, x, hx => by cases h; exact List.mem_append_left _ hx
  | Y :: q, acc, l, h, x, hx => by
    unfold lead at h
    split at h
    · cases h; exact List.mem_append_left _ hx
    · split at h
      · split at h
        · cases h; exact List.mem_append_left _ hx
        · exact lead_acc h x (List.mem_append_left _ hx)
      · cases h
theorem lead_comp (hn : ∀ r ∈ rs, sgB r.1 = false) {fs : As} (hc : Cl rs fs) {q : List Str} {x : Str} (h : Fst rs q x) : ∀ acc l, lead fs (least rs) q acc = some l → x ∈ l := by
  induction h with
  | @sg x q hs =>
    intro acc l hl
    unfold lead at hl
    rw [if_pos hs] at hl
    cases hl
    exact List.mem_append_right _ (by simp)
  | @nm k q x hk hf ih =>
    intro acc l hl
    have hm : ruA rs k ∈ rs := by rw [ruA_at hk]; exact List.getElem_mem hk
    have hs := hn _ hm
    unfold lead at hl
    rw [if_neg (fun z => by have z : sgB (ruA rs k).1 = true := z; rw [hs] at z; cases z)] at hl
    cases hg : getA fs (ruA rs k).1 with
    | none => rw [hg] at hl; cases hl
    | some f =>
      cases hw : getA (least rs) (ruA rs k).1 with
      | none => rw [hg, hw] at hl; cases hl
      | some w =>
        rw [hg, hw] at hl
        dsimp only at hl
        obtain ⟨l', h1, h2⟩ := hc _ hm
        have hx : x ∈ f := h2 x (ih [] l' h1) (fun z => by have := hf.sgn; rw [z, sg_dollar] at this; cases this) f hg
        split at hl
        · cases hl; exact List.mem_append_right _ hx
        · exact lead_acc hl x (List.mem_append_right _ hx)
  | @sk X q x hd hf ih =>
    intro acc l hl
    have hs := nil_nosg hn hd
    unfold lead at hl
    rw [if_neg (fun z => by have z : sgB X = true := z; rw [hs] at z; cases z)] at hl
    cases hg : getA fs X with
    | none => rw [hg] at hl; cases hl
    | some f =>
      cases hw : getA (least rs) X with
      | none => rw [hg, hw] at hl; cases hl
      | some w =>
        rw [hg, hw] at hl
        dsimp only at hl
        have := (least_nil hn hw).mpr hd
        subst this
        rw [if_neg (by simp)] at hl
        exact ih _ l hl
end LW
namespace LW
open PySem L2 DL
def fullX (rs : List Rl) (q : List Str) : List Rl := rs ++ [(("" : Str), q)]
def dueR (rs : List Rl) (q : List Str) : List Str :=
  (if (rs.length, q.length, 0) ∈ setOf (fullX rs q) [] then [("$" : Str)] else []) ++ (signsG rs).filter fun x => decide (scan0 (fullX rs q) (setOf (fullX rs q) []) x ≠ [])
theorem fst_in {rs : List Rl} {q : List Str} {x : Str} (h : Fst rs q x) : x ∈ q ∨ x ∈ allR rs := by
  induction h with
  | sg _ => exact .inl List.mem_cons_self
  | @nm k q x hk _ ih =>
    have hm : ruA rs k ∈ rs := by rw [ruA_at hk]; exact List.getElem_mem hk
    exact .inr (ih.elim (fun h => allR_in _ hm x h) id)
  | sk _ _ ih => exact ih.imp_left fun h => .tail _ h
end LW
namespace LW
open PySem L2 DL
end LW
namespace LW
open PySem L2 DL
variable {rs : List Rl}
theorem Rdg.nl (h : Rdg rs) : ((least rs).map (·.1)).Nodup := (St.iter h.gok.gd rs.length).len.nd
theorem Rdg.f1 (h : Rdg rs) : (namesG rs).find? (fun x => (getA (least rs) x).isNone) = none := by
  rw [List.find?_eq_none]
  intro x hx
  obtain ⟨r, hr, rfl⟩ := List.mem_map.mp (ws_names h.ws hx)
  have := List.all_eq_true.mp h.told r hr
  cases hg : getA (least rs) r.1 with
  | none => rw [hg] at this; cases this
  | some u => simp
theorem Rdg.tr (h : Rdg rs) : TR rs (least rs) := h.gok.tr h.f1
theorem Rdg.name (h : Rdg rs) {x : Str} (hx : x ∈ namesG rs) : ∃ w, getA (least rs) x = some w := by
  have := List.find?_eq_none.mp h.f1 x hx
  cases hg : getA (least rs) x with
  | none => rw [hg] at this; exact absurd rfl this
  | some w => exact ⟨w, rfl⟩
end LW
namespace LW
open PySem L2 DL
theorem aft_spec {fs ls : As} {z0 : Str} {F : Str → Str → Prop} {N : Str → Prop} (hF : ∀ X f, getA fs X = some f → ∀ x, x ∈ f ↔ F X x) (hN : ∀ X w, getA ls X = some w → (w = [] ↔ N X)) :
    ∀ {q acc l : List Str}, aft fs ls z0 q acc = some l → ∀ x, x ∈ l ↔ x ∈ acc ∨ (∃ p y r, q = p ++ y :: r ∧ (∀ X ∈ p, sgB X = false ∧ N X) ∧ ((sgB y = true ∧ x = y) ∨ (sgB y = false ∧ F y x))) ∨ ((∀ X ∈ q, sgB X = false ∧ N X) ∧ x = z0)
  | [], acc, l, h, x => by
    have h : some (acc ++ [z0]) = some l := h
    cases h
    rw [List.mem_append, List.mem_singleton]
    constructor
    · rintro (h | h)
      · exact .inl h
      · exact .inr (.inr ⟨(fun X hX => by cases hX), h⟩)
    · rintro (h | ⟨p, y, r, h, _⟩ | ⟨_, h⟩)
      · exact .inl h
      · simp at h
      · exact .inr h
  | Y :: q, acc, l, h, x => by
    unfold aft at h
    by_cases hs : sgB Y = true
    · rw [if_pos hs] at h
      cases h
      rw [List.mem_append, List.mem_singleton]
      constructor
      · rintro (h | h)
        · exact .inl h
        · exact .inr (.inl ⟨[], Y, q, rfl, (fun X hX => by cases hX), .inl ⟨hs, h⟩⟩)
      · rintro (h | ⟨p, y, r, h, hp, hy⟩ | ⟨h, _⟩)
        · exact .inl h
        · cases p with
          | nil =>
            rw [List.nil_append, List.cons.injEq] at h
            rcases hy with hy | hy
            · right; rw [hy.2, ← h.1]
            · rw [← h.1, hs] at hy; cases hy.1
          | cons z p =>
            rw [List.cons_append, List.cons.injEq] at h
            have := (hp z List.mem_cons_self).1
            rw [← h.1, hs] at this; cases this
        · have := (h Y List.mem_cons_self).1
          rw [hs] at this; cases this
    · rw [if_neg hs] at h
      have hs : sgB Y = false := by simpa using hs
      cases hf : getA fs Y with
      | none => rw [hf] at h; cases h
      | some f =>
        cases hw : getA ls Y with
        | none => rw [hf, hw] at h; cases h
        | some w =>
          rw [hf, hw] at h
          dsimp only at h
          have kF := hF Y f hf x
          have kN := hN Y w hw
          split at h
          · rename_i hem
            cases h
            have hne : ¬ N Y := fun z => by rw [kN.mpr z] at hem; cases hem
            rw [List.mem_append, kF]
            constructor
            · rintro (h | h)
              · exact .inl h
              · exact .inr (.inl ⟨[], Y, q, rfl, (fun X hX => by cases hX), .inr ⟨hs, h⟩⟩)
            · rintro (h | ⟨p, y, r, h, hp, hy⟩ | ⟨h, _⟩)
              · exact .inl h
              · cases p with
                | nil =>
                  rw [List.nil_append, List.cons.injEq] at h
                  rcases hy with hy | hy
                  · rw [← h.1, hs] at hy; cases hy.1
                  · right; rw [h.1]; exact hy.2
                | cons z p =>
                  rw [List.cons_append, List.cons.injEq] at h
                  have := (hp z List.mem_cons_self).2
                  rw [← h.1] at this; exact (hne this).elim
              · exact (hne (h Y List.mem_cons_self).2).elim
          · rename_i hem
            have hY : N Y := kN.mp (by cases w with
              | nil => rfl
              | cons a b => exact absurd rfl hem)
            rw [aft_spec hF hN h x, List.mem_append, kF]
            constructor
            · rintro ((h | h) | ⟨p, y, r, h, hp, hy⟩ | ⟨h, e⟩)
              · exact .inl h
              · exact .inr (.inl ⟨[], Y, q, rfl, (fun X hX => by cases hX), .inr ⟨hs, h⟩⟩)
              · refine .inr (.inl ⟨Y :: p, y, r, by rw [h]; rfl, fun X hX => ?_, hy⟩)
                rcases List.mem_cons.mp hX with rfl | hX
                · exact ⟨hs, hY⟩
                · exact hp X hX
              · refine .inr (.inr ⟨fun X hX => ?_, e⟩)
                rcases List.mem_cons.mp hX with rfl | hX
                · exact ⟨hs, hY⟩
                · exact h X hX
            · rintro (h | ⟨p, y, r, h, hp, hy⟩ | ⟨h, e⟩)
              · exact .inl (.inl h)
              · cases p with
                | nil =>
                  rw [List.nil_append, List.cons.injEq] at h
                  rcases hy with hy | hy
                  · rw [← h.1, hs] at hy; cases hy.1
                  · left; right; rw [h.1]; exact hy.2
                | cons z p =>
                  rw [List.cons_append, List.cons.injEq] at h
                  exact .inr (.inl ⟨p, y, r, h.2, fun X hX => hp X (.tail _ hX), hy⟩)
              · exact .inr (.inr ⟨fun X hX => h X (.tail _ hX), e⟩)
def InF (fs : As) (X x : Str) : Prop := ∃ f, getA fs X = some f ∧ x ∈ f
theorem add_in {n : Str} {s : As × Bool} {y X x : Str} : InF (addF n s y).1 X x ↔ InF s.1 X x ∨ (X = n ∧ x = y ∧ y ≠ "$" ∧ (getA s.1 n).isSome = true) := by
  unfold addF
  cases hg : getA s.1 n with
  | none => exact ⟨.inl, fun h => h.elim id fun ⟨_, _, _, h⟩ => by cases h⟩
  | some f =>
    dsimp only
    by_cases c : y ≠ "$" ∧ y ∉ f
    · rw [if_pos c]
      unfold InF
      constructor
      · rintro ⟨g, e, hx⟩
        have e : getA (putA s.1 n (f ++ [y])) X = some g := e
        rw [getA_put] at e
        by_cases hX : X = n
        · rw [if_pos hX] at e
          cases e
          rcases List.mem_append.mp hx with hx | hx
          · exact .inl ⟨f, by rw [hX]; exact hg, hx⟩
          · rw [List.mem_singleton] at hx
            exact .inr ⟨hX, hx, c.1, rfl⟩
        · rw [if_neg hX] at e
          exact .inl ⟨g, e, hx⟩
      · rintro (⟨g, e, hx⟩ | ⟨hX, hx, _, _⟩)
        · show ∃ f', getA (putA s.1 n (f ++ [y])) X = some f' ∧ x ∈ f'
          rw [getA_put]
          by_cases hX : X = n
          · rw [if_pos hX]
            rw [hX, hg] at e
            cases e
            exact ⟨_, rfl, List.mem_append_left _ hx⟩
          · rw [if_neg hX]
            exact ⟨g, e, hx⟩
        · show ∃ f', getA (putA s.1 n (f ++ [y])) X = some f' ∧ x ∈ f'
          rw [getA_put, if_pos hX]
          exact ⟨_, rfl, List.mem_append_right _ (by rw [hx]; simp)⟩
    · rw [if_neg c]
      refine ⟨.inl, fun h => h.elim id fun ⟨hX, hx, hne, _⟩ => ⟨f, by rw [hX]; exact hg, ?_⟩⟩
      rw [hx]
      exact Classical.byContradiction fun z => c ⟨hne, z⟩
theorem add_key {n m : Str} {s : As × Bool} {y : Str} : (getA (addF n s y).1 m).isSome = (getA s.1 m).isSome := by
  unfold addF
  cases hg : getA s.1 n with
  | none => rfl
  | some f =>
    dsimp only
    split
    · show (getA (putA s.1 n (f ++ [y])) m).isSome = _
      rw [getA_put]
      by_cases hm : m = n
      · rw [if_pos hm, hm, hg]; rfl
      · rw [if_neg hm]
    · rfl
theorem adds_in {n X x : Str} : ∀ (l : List Str) (s : As × Bool), InF (l.foldl (addF n) s).1 X x ↔ InF s.1 X x ∨ (X = n ∧ x ∈ l ∧ x ≠ "$" ∧ (getA s.1 n).isSome = true)
  | [], s => ⟨.inl, fun h => h.elim id fun ⟨_, h, _⟩ => by cases h⟩
  | y :: l, s => by
    rw [List.foldl_cons, adds_in l, add_in, add_key]
    constructor
    · rintro ((h | ⟨h1, h2, h3, h4⟩) | ⟨h1, h2, h3, h4⟩)
      · exact .inl h
      · exact .inr ⟨h1, by rw [h2]; exact List.mem_cons_self, by rw [h2]; exact h3, h4⟩
      · exact .inr ⟨h1, .tail _ h2, h3, h4⟩
    · rintro (h | ⟨h1, h2, h3, h4⟩)
      · exact .inl (.inl h)
      · rcases List.mem_cons.mp h2 with e | h2
        · exact .inl (.inr ⟨h1, e, by rw [← e]; exact h3, h4⟩)
        · exact .inr ⟨h1, h2, h3, h4⟩
section
variable (rs : List Rl) (x : Str)
def LIn (P : Str → Prop) (q : List Str) : Prop := ∃ p y r, q = p ++ y :: r ∧ (∀ X ∈ p, sgB X = false ∧ DerS rs [X] []) ∧ ((sgB y = true ∧ x = y) ∨ (sgB y = false ∧ P y))
def spSu (P : Str → Prop) (r : Rl) : Str → Prop := fun X => P X ∨ (X = r.1 ∧ LIn rs x P r.2)
end
section
variable {rs : List Rl} {x : Str}
theorem fold_in (hn : ∀ r ∈ rs, sgB r.1 = false) (tr : TRl rs (least rs)) (hx : x ≠ "$") : ∀ (l : List Rl) (s : As × Bool), (∀ r ∈ l, r ∈ rs) → Sg (allR rs) (h0 rs) s.1 → (fun X => InF (l.foldl (stepG (least rs)) s).1 X x) = l.foldl (spSu rs x) (fun X => InF s.1 X x)
  | [], s, _, _ => rfl
  | r :: l, s, hl, h => by
    have hr := hl r List.mem_cons_self
    rw [List.foldl_cons, List.foldl_cons, fold_in hn tr hx l _ (fun q hq => hl q (.tail _ hq)) (h.stepH hr)]
    congr 1
    funext X
    obtain ⟨m, hm⟩ := lead_some (fs := s.1) (ls := least rs) (q := r.2) [] (tr.told h.keys hr)
    have hk : (getA s.1 r.1).isSome = true := by
      obtain ⟨f, hf⟩ := key_some (ls := h0 rs) h.keys (x := r.1) ⟨[], by
        show getA (rs.foldl (fun f r => putA f r.1 ([] : List Str)) []) r.1 = _
        rw [h0_get, if_pos (List.mem_map.mpr ⟨r, hr, rfl⟩)]⟩
      rw [hf]; rfl
    unfold stepG
    rw [hm]
    dsimp only
    refine propext ?_
    rw [adds_in]
    have sp := lead_spec (fs := s.1) (ls := least rs) (F := fun X x => InF s.1 X x) (N := fun X => DerS rs [X] []) (fun X f e x => ⟨fun h => ⟨f, e, h⟩, fun ⟨f', e', h⟩ => by rw [e] at e'; rw [Option.some.inj e']; exact h⟩) (fun X w e => least_nil hn e) hm x
    unfold spSu LIn
    constructor
    · rintro (h1 | ⟨h1, h2, _, _⟩)
      · exact .inl h1
      · rcases sp.mp h2 with h3 | h3 | ⟨_, h3⟩
        · cases h3
        · exact .inr ⟨h1, h3⟩
        · exact absurd h3 hx
    · rintro (h1 | ⟨h1, h2⟩)
      · exact .inl h1
      · exact .inr ⟨h1, sp.mpr (.inr (.inl h2)), hx, hk⟩
theorem spS_up (P : Str → Prop) : ∀ (l : List Rl) (X : Str), P X → l.foldl (spSu rs x) P X
  | [], X, h => h
  | r :: l, X, h => spS_up (spSu rs x P r) l X (.inl h)
theorem spS_fix {P : Str → Prop} {l : List Rl} (h : l.foldl (spSu rs x) P = P) {r : Rl} (hr : r ∈ l) (hL : LIn rs x P r.2) : P r.1 := by
  obtain ⟨a, b, rfl⟩ := List.append_of_mem hr
  rw [List.foldl_append, List.foldl_cons] at h
  rw [← h]
  refine spS_up _ b _ (.inr ⟨rfl, ?_⟩)
  obtain ⟨p, y, s, e, h1, h2⟩ := hL
  exact ⟨p, y, s, e, h1, h2.imp id fun ⟨h3, h4⟩ => ⟨h3, spS_up P a y h4⟩⟩
theorem rest_of {T : (Str → Prop) → Str → Prop} {P : Nat → Str → Prop} (m : List Str) (hs : ∀ i, P (i + 1) = T (P i)) (up : ∀ i X, P i X → P (i + 1) X) (sub : ∀ i X, P i X → X ∈ m) : ∀ j, m.length ≤ j → T (P j) = P j := by
  have stay : ∀ i, P (i + 1) = P i → ∀ j, i ≤ j → P j = P i := by
    intro i h j
    induction j with
    | zero => intro hj; rw [Nat.le_zero.mp hj]
    | succ j ih =>
      intro hj
      rcases Nat.eq_or_lt_of_le hj with e | e
      · rw [← e]
      · rw [hs, ih (by omega), ← hs, h]
  have key : ∃ i, i ≤ m.length ∧ P (i + 1) = P i := Classical.byContradiction fun hno => by
    have : ∀ i X, Decidable (P i X) := fun i X => Classical.propDecidable _
    have cnt : ∀ i, i ≤ m.length + 1 → i ≤ (m.filter fun X => decide (P i X)).length := by
      intro i
      induction i with
      | zero => intro _; exact Nat.zero_le _
      | succ i ih =>
        intro hi
        have h1 := ih (by omega)
        have hne : ∃ X, P (i + 1) X ∧ ¬ P i X := Classical.byContradiction fun z => hno ⟨i, by omega, funext fun X => propext ⟨fun h => Classical.byContradiction fun k => z ⟨X, h, k⟩, up i X⟩⟩
        obtain ⟨X, hX1, hX2⟩ := hne
        have grow : ∀ l : List Str, (l.filter fun X => decide (P i X)).length + (if X ∈ l then 1 else 0) ≤ (l.filter fun X => decide (P (i + 1) X)).length := by
          intro l
          induction l with
          | nil => simp
          | cons y l ihl =>
            by_cases e : X = y
            · have q1 : decide (P i y) = false := decide_eq_false (e ▸ hX2)
              have q2 : decide (P (i + 1) y) = true := decide_eq_true (e ▸ hX1)
              rw [if_pos (by rw [e]; exact List.mem_cons_self), List.filter_cons_of_neg (by rw [q1]; exact Bool.false_ne_true), List.filter_cons_of_pos (by rw [q2]), List.length_cons]
              have : (l.filter fun X => decide (P i X)).length ≤ (l.filter fun X => decide (P (i + 1) X)).length := Nat.le_trans (Nat.le_add_right _ _) ihl
              omega
            · have hm : (X ∈ y :: l) ↔ X ∈ l := by rw [List.mem_cons]; exact ⟨fun h => h.resolve_left e, .inr⟩
              simp only [hm]
              by_cases h2 : P i y
              · have q1 : decide (P i y) = true := decide_eq_true h2
                have q2 : decide (P (i + 1) y) = true := decide_eq_true (up i y h2)
                rw [List.filter_cons_of_pos (by rw [q1]), List.filter_cons_of_pos (by rw [q2]), List.length_cons, List.length_cons]
                omega
              · have q1 : decide (P i y) = false := decide_eq_false h2
                rw [List.filter_cons_of_neg (by rw [q1]; exact Bool.false_ne_true), List.filter_cons]
                by_cases h3 : decide (P (i + 1) y) = true
                · rw [if_pos h3, List.length_cons]; omega
                · rw [if_neg h3]; exact ihl
        have := grow m
        rw [if_pos (sub _ X hX1)] at this
        omega
    have h1 := cnt (m.length + 1) (Nat.le_refl _)
    have h2 := List.length_filter_le (fun X => decide (P (m.length + 1) X)) m
    omega
  obtain ⟨i, hi, e⟩ := key
  intro j hj
  rw [← hs]
  exact (stay i e (j + 1) (by omega)).trans (stay i e j (by omega)).symm
theorem heads_cl (hn : ∀ r ∈ rs, sgB r.1 = false) (tr : TRl rs (least rs)) : Cl rs (headsR rs (least rs)) := fun r hr => by
  have hs : Sg (allR rs) (h0 rs) (headsR rs (least rs)) := Sg.iterH (rs := rs) (ls := least rs) (rs.length + 1)
  obtain ⟨l, hl⟩ := lead_some (fs := headsR rs (least rs)) (ls := least rs) (q := r.2) [] (tr.told hs.keys hr)
  refine ⟨l, hl, fun x hx hne f hf => ?_⟩
  have step : ∀ i, (fun X => InF (iterH rs (least rs) (i + 1)) X x) = rs.foldl (spSu rs x) (fun X => InF (iterH rs (least rs) i) X x) := fun i =>
    fold_in hn tr hne rs (iterH rs (least rs) i, false) (fun r h => h) (Sg.iterH (rs := rs) (ls := least rs) i)
  have fix := rest_of (T := fun P => rs.foldl (spSu rs x) P) (P := fun i X => InF (iterH rs (least rs) i) X x) (rs.map (·.1)) step (fun i X h => by
      have e := congrFun (step i) X
      show InF (iterH rs (least rs) (i + 1)) X x
      have e : InF (iterH rs (least rs) (i + 1)) X x = rs.foldl (spSu rs x) (fun X => InF (iterH rs (least rs) i) X x) X := e
      rw [e]
      exact spS_up _ rs X h) (fun i X ⟨f, e, _⟩ => by
      have hk := (Sg.iterH (rs := rs) (ls := least rs) i).keys
      have hm : X ∈ (iterH rs (least rs) i).map (·.1) := Classical.byContradiction fun z => by
        rw [getA_none.mpr z] at e; cases e
      rw [hk] at hm
      refine Classical.byContradiction fun z => ?_
      have : getA (h0 rs) X = none := by
        show getA (rs.foldl (fun f r => putA f r.1 ([] : List Str)) []) X = _
        rw [h0_get, if_neg z]; rfl
      exact getA_none.mp this hm) (rs.length + 1) (by rw [List.length_map]; omega)
  have hL : LIn rs x (fun X => InF (iterH rs (least rs) (rs.length + 1)) X x) r.2 := by
    have sp := (lead_spec (fs := headsR rs (least rs)) (ls := least rs) (F := fun X x => InF (headsR rs (least rs)) X x) (N := fun X => DerS rs [X] []) (fun X f e x => ⟨fun h => ⟨f, e, h⟩, fun ⟨f', e', h⟩ => by rw [e] at e'; rw [Option.some.inj e']; exact h⟩) (fun X w e => least_nil hn e) hl x).mp hx
    rcases sp with h3 | h3 | ⟨_, h3⟩
    · cases h3
    · exact h3
    · exact absurd h3 hne
  obtain ⟨f', e', h'⟩ := spS_fix (rs := rs) (x := x) fix hr hL
  have hf : getA (iterH rs (least rs) (rs.length + 1)) r.1 = some f := hf
  rw [hf] at e'
  rw [Option.some.inj e']
  exact h'
theorem heads_ok (hn : ∀ r ∈ rs, sgB r.1 = false) : FsOk rs (headsR rs (least rs)) := by
  have key : ∀ i, FsOk rs (iterH rs (least rs) i) := fun i => by
    induction i with
    | zero =>
      intro X f e x hx
      have e : getA (rs.foldl (fun f r => putA f r.1 ([] : List Str)) []) X = some f := e
      rw [h0_get] at e
      split at e
      · cases e; cases hx
      · cases e
    | succ i ih => exact fsok_fold hn rs (iterH rs (least rs) i, false) (fun r hr => hr) ih
  exact key _
theorem aft_iff (hn : ∀ r ∈ rs, sgB r.1 = false) (tr : TRl rs (least rs)) {z : Str} {q l : List Str} (hl : aft (headsR rs (least rs)) (least rs) z q [] = some l) (y : Str) : y ∈ l ↔ Fst rs q y ∨ (y = z ∧ DerS rs q []) := by
  have hin : ∀ X x, InF (headsR rs (least rs)) X x → Fst rs [X] x := fun X x ⟨f, e, h⟩ => heads_ok hn X f e x h
  have sp := aft_spec (fs := headsR rs (least rs)) (ls := least rs) (F := fun X x => InF (headsR rs (least rs)) X x) (N := fun X => DerS rs [X] []) (fun X f e x => ⟨fun h => ⟨f, e, h⟩, fun ⟨f', e', h⟩ => by rw [e] at e'; rw [Option.some.inj e']; exact h⟩) (fun X w e => least_nil hn e) hl y
  have told : ∀ l', lead (headsR rs (least rs)) (least rs) q [] = some l' → (y ∈ l' ↔ y ∈ ([] : List Str) ∨ (∃ p w r, q = p ++ w :: r ∧ (∀ X ∈ p, sgB X = false ∧ DerS rs [X] []) ∧ ((sgB w = true ∧ y = w) ∨ (sgB w = false ∧ InF (headsR rs (least rs)) w y))) ∨ ((∀ X ∈ q, sgB X = false ∧ DerS rs [X] []) ∧ y = "$")) := fun l' h =>
    lead_spec (fs := headsR rs (least rs)) (ls := least rs) (F := fun X x => InF (headsR rs (least rs)) X x) (N := fun X => DerS rs [X] []) (fun X f e x => ⟨fun h => ⟨f, e, h⟩, fun ⟨f', e', h⟩ => by rw [e] at e'; rw [Option.some.inj e']; exact h⟩) (fun X w e => least_nil hn e) h y
  rw [sp]
  constructor
  · rintro (h1 | ⟨p, w, r, rfl, hp, hy⟩ | ⟨hq, hx⟩)
    · cases h1
    · left
      refine Fst.skip (DerS.nil_of fun X hX => (hp X hX).2) ?_
      rcases hy with ⟨hs, rfl⟩ | ⟨_, hf⟩
      · exact .sg hs
      · exact (hin w y hf).app r
    · exact .inr ⟨hx, DerS.nil_of fun X hX => (hq X hX).2⟩
  · rintro (h | ⟨rfl, h⟩)
    · right; left
      obtain ⟨l', hl'⟩ : ∃ l', lead (headsR rs (least rs)) (least rs) q [] = some l' := by
        have key : ∀ (q acc l : List Str), aft (headsR rs (least rs)) (least rs) z q acc = some l → ∃ l', lead (headsR rs (least rs)) (least rs) q acc = some l' := by
          intro q
          induction q with
          | nil => exact fun acc l h => ⟨_, rfl⟩
          | cons X q ih =>
            intro acc l h
            unfold aft at h
            unfold lead
            split at h
            · rename_i hc; rw [if_pos hc]; exact ⟨_, rfl⟩
            · rename_i hc
              rw [if_neg hc]
              split at h
              · rename_i f w hf hw
                try rw [hf, hw]
                try dsimp only
                by_cases hc2 : w.isEmpty = false
                · rw [if_pos hc2]; exact ⟨_, rfl⟩
                · rw [if_neg hc2] at h ⊢; exact ih _ _ h
              · cases h
        exact key q [] l hl
      rcases (told l' hl').mp (lead_comp hn (heads_cl hn tr) h [] l' hl') with h1 | h1 | ⟨_, h1⟩
      · cases h1
      · exact h1
      · have := h.sgn
        rw [h1, sg_dollar] at this; cases this
    · exact .inr (.inr ⟨fun X hX => ⟨nil_nosg hn (h.nil_all X hX), h.nil_all X hX⟩, rfl⟩)
end
end LW
namespace LW
open PySem L2 DL
namespace Cx0
def Beh (c : Cx0) (q : Qd) (y : Str) : Prop := Fst c.rs ((c.rgt q.2.1).drop (q.2.2.1 + 1)) y ∨ (y = q.2.2.2 ∧ DerS c.rs ((c.rgt q.2.1).drop (q.2.2.1 + 1)) [])
inductive Rc (c : Cx0) : Qd → Prop
  | st : Rc c (0, c.rs.length, 0, ("$" : Str))
  | sh {q : Qd} {X : Str} : Rc c q → (c.rgt q.2.1)[q.2.2.1]? = some X → Rc c ((goB c.rows q.1 X).getD 0, q.2.1, q.2.2.1 + 1, q.2.2.2)
  | cl {q : Qd} {X : Str} {k : Nat} {y : Str} : Rc c q → (c.rgt q.2.1)[q.2.2.1]? = some X → k < c.fr.length → (ruA c.fr k).1 = X → Beh c q y → Rc c (q.1, k, 0, y)
structure Lw (c : Cx0) : Prop where
  ls : c.ls = least c.rs
  hs : c.hs = headsR c.rs (least c.rs)
variable {c : Cx0}
theorem sg_names (h : c.Ok) : ∀ r ∈ c.rs, sgB r.1 = false := fun r hr => by
  cases hs : sgB r.1 with
  | false => rfl
  | true => have := sg_nm hs; rw [h.nm r hr] at this; cases this
theorem aftQ_iff (h : c.Ok) (w : Lw c) {q : Qd} (hr : q.2.1 < c.fr.length) (y : Str) : y ∈ c.aftQ q ↔ Beh c q y := by
  have e := aft_is h hr
  have tr := h.tr
  rw [w.ls] at tr
  rw [w.ls, w.hs] at e
  exact aft_iff (sg_names h) tr e y
theorem more_iff {q x : Qd} : x ∈ c.moreQ q ↔ ∃ X, (c.rgt q.2.1)[q.2.2.1]? = some X ∧ (x = ((goB c.rows q.1 X).getD 0, q.2.1, q.2.2.1 + 1, q.2.2.2) ∨ ∃ k y, k < c.fr.length ∧ (ruA c.fr k).1 = X ∧ y ∈ c.aftQ q ∧ x = (q.1, k, 0, y)) := by
  unfold moreQ
  cases hX : (c.rgt q.2.1)[q.2.2.1]? with
  | none => exact ⟨fun h => (by cases h), fun ⟨X, h, _⟩ => (by cases h)⟩
  | some X =>
    dsimp only
    rw [List.mem_cons]
    constructor
    · rintro (h | h)
      · exact ⟨X, rfl, .inl h⟩
      · obtain ⟨k, hk, hx⟩ := List.mem_flatMap.mp h
        unfold moreK at hx
        split at hx
        · rename_i e
          obtain ⟨y, hy, rfl⟩ := List.mem_map.mp hx
          exact ⟨X, rfl, .inr ⟨k, y, List.mem_range.mp hk, e, hy, rfl⟩⟩
        · cases hx
    · rintro ⟨X', e, h⟩
      cases e
      rcases h with h | ⟨k, y, hk, e, hy, rfl⟩
      · exact .inl h
      · refine .inr (List.mem_flatMap.mpr ⟨k, List.mem_range.mpr hk, ?_⟩)
        unfold moreK
        rw [if_pos e]
        exact List.mem_map.mpr ⟨y, hy, rfl⟩
theorem Rc.qv (h : c.Ok) (w : Lw c) {q : Qd} (r : Rc c q) : c.QV q := by
  induction r with
  | st => exact QV.start h
  | sh _ hX ih => exact ih.more h _ (more_iff.mpr ⟨_, hX, .inl rfl⟩)
  | cl _ hX hk e hb ih => exact ih.more h _ (more_iff.mpr ⟨_, hX, .inr ⟨_, _, hk, e, (aftQ_iff h w (ih.lt h).1 _).mpr hb, rfl⟩⟩)
theorem Rc.more (h : c.Ok) (w : Lw c) {q x : Qd} (r : Rc c q) (hx : x ∈ c.moreQ q) : Rc c x := by
  obtain ⟨X, hX, rfl | ⟨k, y, hk, e, hy, rfl⟩⟩ := more_iff.mp hx
  · exact .sh r hX
  · exact .cl r hX hk e ((aftQ_iff h w ((r.qv h w).lt h).1 _).mp hy)
theorem addQ_pre (t : List Qd) (x : Qd) : ∃ u, addQ t x = t ++ u := by
  unfold addQ
  split
  · exact ⟨[], by simp⟩
  · exact ⟨[x], rfl⟩
theorem addQ_mem (t : List Qd) (x : Qd) : x ∈ addQ t x := by
  unfold addQ
  split
  · assumption
  · simp
theorem addQ_or {t : List Qd} {x y : Qd} (h : y ∈ addQ t x) : y ∈ t ∨ y = x := by
  unfold addQ at h
  split at h
  · exact .inl h
  · simpa using h
theorem addsQ_pre : ∀ (l t : List Qd), ∃ u, l.foldl addQ t = t ++ u
  | [], t => ⟨[], by simp⟩
  | x :: l, t => by
    obtain ⟨u, hu⟩ := addQ_pre t x
    obtain ⟨v, hv⟩ := addsQ_pre l (addQ t x)
    exact ⟨u ++ v, by rw [List.foldl_cons, hv, hu, List.append_assoc]⟩
theorem addsQ_mem : ∀ (l t : List Qd), ∀ x ∈ l, x ∈ l.foldl addQ t
  | y :: l, t, x, hx => by
    rw [List.foldl_cons]
    rcases List.mem_cons.mp hx with rfl | hx
    · obtain ⟨u, hu⟩ := addsQ_pre l (addQ t x)
      rw [hu]; exact List.mem_append_left _ (addQ_mem t x)
    · exact addsQ_mem l _ x hx
theorem addsQ_or : ∀ (l t : List Qd) (y : Qd), y ∈ l.foldl addQ t → y ∈ t ∨ y ∈ l
  | [], t, y, h => .inl h
  | x :: l, t, y, h => by
    rw [List.foldl_cons] at h
    rcases addsQ_or l _ y h with h | h
    · rcases addQ_or h with h | h
      · exact .inl h
      · exact .inr (by rw [h]; exact List.mem_cons_self)
    · exact .inr (.tail _ h)
def InB (acts : Acts) (k : Nat × Str) (a : Ac) : Prop := ∃ l, getB acts k = some l ∧ a ∈ l
theorem actS_in {acts : Acts} {q : Qd} {k : Nat × Str} {a : Ac} : InB (c.actS acts q) k a ↔ InB acts k a ∨ (k = c.keyQ q ∧ c.actQ q = some a) := by
  unfold actS
  cases ha : c.actQ q with
  | none => exact ⟨.inl, fun h => h.elim id fun h => (by cases h.2)⟩
  | some b =>
    dsimp only
    have old : ∀ x, x ∈ (getB acts (c.keyQ q)).getD [] ↔ InB acts (c.keyQ q) x := fun x => by
      unfold InB
      cases hg : getB acts (c.keyQ q) with
      | none => exact ⟨fun h => (by cases h), fun ⟨l, e, _⟩ => (by cases e)⟩
      | some l => exact ⟨fun h => ⟨l, rfl, h⟩, fun ⟨l', e, h⟩ => by cases e; exact h⟩
    by_cases hc : b ∈ (getB acts (c.keyQ q)).getD []
    · rw [if_pos hc]
      refine ⟨.inl, fun h => h.elim id fun ⟨h1, h2⟩ => ?_⟩
      cases h2
      rw [h1]; exact (old _).mp hc
    · rw [if_neg hc]
      unfold InB
      rw [getB_put]
      by_cases hk : k = c.keyQ q
      · rw [if_pos hk]
        constructor
        · rintro ⟨l, e, hl⟩
          cases e
          rcases List.mem_append.mp hl with hl | hl
          · left; rw [hk]; exact (old a).mp hl
          · rw [List.mem_singleton] at hl
            exact .inr ⟨hk, by rw [hl]⟩
        · rintro (h | ⟨_, h⟩)
          · refine ⟨_, rfl, List.mem_append_left _ ((old a).mpr ?_)⟩
            rw [← hk]; exact h
          · cases h
            exact ⟨_, rfl, List.mem_append_right _ (by simp)⟩
      · rw [if_neg hk]
        exact ⟨.inl, fun h => h.elim id fun h => absurd h.1 hk⟩
structure Dn (c : Cx0) (i : Nat) : Prop where
  rc : ∀ q ∈ (c.tdN i).1, Rc c q
  st : (0, c.rs.length, 0, ("$" : Str)) ∈ (c.tdN i).1
  more : ∀ (j : Nat) (q : Qd), j < i → (c.tdN i).1[j]? = some q → ∀ x ∈ c.moreQ q, x ∈ (c.tdN i).1
  act : ∀ (j : Nat) (q : Qd), j < i → (c.tdN i).1[j]? = some q → ∀ a, c.actQ q = some a → InB (c.tdN i).2 (c.keyQ q) a
  from_ : ∀ k a, InB (c.tdN i).2 k a → ∃ q, Rc c q ∧ c.keyQ q = k ∧ c.actQ q = some a
theorem dn (h : c.Ok) (w : Lw c) : ∀ i, Dn c i
  | 0 => ⟨fun q hq => by
      have : q = (0, c.rs.length, 0, ("$" : Str)) := by simpa [tdN] using hq
      rw [this]; exact .st, by simp [tdN], fun j q hj => absurd hj (Nat.not_lt_zero _), fun j q hj => absurd hj (Nat.not_lt_zero _), fun k a ⟨l, e, _⟩ => by cases e⟩
  | i + 1 => by
    have ih := dn h w i
    rw [show i + 1 = i + 1 from rfl]
    cases hq : (c.tdN i).1[i]? with
    | none =>
      have e : c.tdN (i + 1) = c.tdN i := by rw [tdN_succ, hq]
      have hle : (c.tdN i).1.length ≤ i := List.getElem?_eq_none_iff.mp hq
      refine ⟨?_, ?_, ?_, ?_, ?_⟩
      · rw [e]; exact ih.rc
      · rw [e]; exact ih.st
      · rw [e]; exact fun j q hj h1 => ih.more j q (Nat.lt_of_lt_of_le (List.getElem?_eq_some_iff.mp h1).1 hle) h1
      · rw [e]; exact fun j q hj h1 => ih.act j q (Nat.lt_of_lt_of_le (List.getElem?_eq_some_iff.mp h1).1 hle) h1
      · rw [e]; exact ih.from_
    | some q0 =>
      have e : c.tdN (i + 1) = ((c.moreQ q0).foldl addQ (c.tdN i).1, c.actS (c.tdN i).2 q0) := by rw [tdN_succ, hq]
      have r0 := ih.rc q0 (List.mem_of_getElem? hq)
      obtain ⟨u, hu⟩ := addsQ_pre (c.moreQ q0) (c.tdN i).1
      have hlt : i < (c.tdN i).1.length := (List.getElem?_eq_some_iff.mp hq).1
      have old : ∀ (j : Nat) (q : Qd), j < i + 1 → ((c.moreQ q0).foldl addQ (c.tdN i).1)[j]? = some q → (c.tdN i).1[j]? = some q := fun j q hj h1 => by
        rw [hu, List.getElem?_append_left (by omega)] at h1
        exact h1
      refine ⟨?_, ?_, ?_, ?_, ?_⟩
      · rw [e]
        intro q hm
        rcases addsQ_or _ _ q hm with hm | hm
        · exact ih.rc q hm
        · exact r0.more h w hm
      · rw [e]; dsimp only; rw [hu]; exact List.mem_append_left _ ih.st
      · rw [e]
        intro j q hj h1 x hx
        have h2 := old j q hj h1
        by_cases hji : j = i
        · subst hji
          rw [hq] at h2; cases h2
          exact addsQ_mem _ _ x hx
        · dsimp only; rw [hu]; exact List.mem_append_left _ (ih.more j q (by omega) h2 x hx)
      · rw [e]
        intro j q hj h1 a ha
        have h2 := old j q hj h1
        refine actS_in.mpr ?_
        by_cases hji : j = i
        · subst hji
          rw [hq] at h2; cases h2
          exact .inr ⟨rfl, ha⟩
        · exact .inl (ih.act j q (by omega) h2 a ha)
      · rw [e]
        intro k a hka
        rcases actS_in.mp hka with hka | ⟨h1, h2⟩
        · exact ih.from_ k a hka
        · exact ⟨q0, r0, h1.symm, h2⟩
theorem quads_iff (h : c.Ok) (w : Lw c) (q : Qd) : q ∈ c.quads ↔ Rc c q := by
  have d := dn h w c.qMax
  have hl : c.quads.length ≤ 150000 := (TInv.tdN h c.qMax).len h
  have cls : ∀ q ∈ c.quads, ∀ x ∈ c.moreQ q, x ∈ c.quads := fun q hq x hx => by
    obtain ⟨j, hj⟩ := List.getElem?_of_mem hq
    exact d.more j q (by have := (List.getElem?_eq_some_iff.mp hj).1; unfold qMax; omega) hj x hx
  constructor
  · exact d.rc q
  · intro r
    induction r with
    | st => exact d.st
    | sh _ hX ih => exact cls _ ih _ (more_iff.mpr ⟨_, hX, .inl rfl⟩)
    | cl hr hX hk e hb ih => exact cls _ ih _ (more_iff.mpr ⟨_, hX, .inr ⟨_, _, hk, e, (aftQ_iff h w ((hr.qv h w).lt h).1 _).mpr hb, rfl⟩⟩)
theorem acts_iff (h : c.Ok) (w : Lw c) (k : Nat × Str) (a : Ac) : InB c.actsR k a ↔ ∃ q, Rc c q ∧ c.keyQ q = k ∧ c.actQ q = some a := by
  have d := dn h w c.qMax
  have hl : c.quads.length ≤ 150000 := (TInv.tdN h c.qMax).len h
  constructor
  · exact d.from_ k a
  · rintro ⟨q, hr, rfl, ha⟩
    obtain ⟨j, hj⟩ := List.getElem?_of_mem ((quads_iff h w q).mpr hr)
    exact d.act j q (by have := (List.getElem?_eq_some_iff.mp hj).1; unfold qMax; omega) hj a ha
theorem Rc.sign (h : c.Ok) {q : Qd} (r : Rc c q) : q.2.2.2 = "$" ∨ (q.2.2.2 ∈ allR c.rs ∧ sgB q.2.2.2 = true) := by
  induction r with
  | st => exact .inl rfl
  | sh _ _ ih => exact ih
  | @cl q X k y hr hX hk e hb ih =>
    rcases hb with hf | ⟨rfl, _⟩
    · right
      refine ⟨?_, hf.sgn⟩
      rcases fst_in hf with h1 | h1
      · by_cases hlt : q.2.1 < c.fr.length
        · exact rgt_all h hlt y h1
        · unfold rgt ruA at h1
          rw [List.getD_eq_getElem?_getD, List.getElem?_eq_none (by omega)] at h1
          simp at h1
      · exact h1
    · exact ih
end Cx0
end LW
namespace LW
open PySem L2 DL
end LW
namespace LW
open PySem L2 DL
def kT (k : Ker) : D := .tup (k.map iD)
end LW
namespace LW
open PySem L2 DL
namespace Cx0
structure Tc (c : Cx0) : Prop where
  ok : c.Ok
  lw : Lw c
  rd : Rdg c.rs
variable {c : Cx0}
def rst (c : Cx0) (q : Qd) : List Str := (c.rgt q.2.1).drop (q.2.2.1 + 1)
def behR (c : Cx0) (q : Qd) : List Str := (dueR c.rs (c.rst q)).map fun x : Str => if x = ("$" : Str) then q.2.2.2 else x
def moreE (c : Cx0) (q : Qd) (X : Str) (k : Nat) : List Qd := if (ruA c.fr k).1 = X then (c.behR q).map fun y => (q.1, k, 0, y) else []
def moreP (c : Cx0) (q : Qd) : List Qd := match (c.rgt q.2.1)[q.2.2.1]? with
  | none => []
  | some X => ((goB c.rows q.1 X).getD 0, q.2.1, q.2.2.1 + 1, q.2.2.2) :: (List.range c.fr.length).flatMap (c.moreE q X)
def tdP (c : Cx0) : Nat → List Qd
  | 0 => [(0, c.rs.length, 0, ("$" : Str))]
  | i + 1 => match (tdP c i)[i]? with
    | none => tdP c i
    | some q => (c.moreP q).foldl addQ (tdP c i)
def quadsP (c : Cx0) : List Qd := tdP c c.qMax
structure PInv (c : Cx0) (t : List Qd) : Prop where
  nd : t.Nodup
  rc : ∀ q ∈ t, Rc c q
theorem PInv.add {t : List Qd} (h : PInv c t) {x : Qd} (hx : Rc c x) : PInv c (addQ t x) := by
  unfold addQ
  split
  · exact h
  · rename_i hn
    exact ⟨List.nodup_append.mpr ⟨h.nd, by simp, fun a ha b hb => by
      simp only [List.mem_singleton] at hb
      subst hb; intro e; subst e; exact hn ha⟩, fun q hq => by
      rcases List.mem_append.mp hq with hq | hq
      · exact h.rc q hq
      · simp only [List.mem_singleton] at hq; subst hq; exact hx⟩
theorem prod_len (zs : List Str) (l : List It) (n : Nat) : ((List.range n).flatMap fun s => l.flatMap fun p => zs.map fun z => ((s, p.1, p.2, z) : Qd)).length = n * (l.length * zs.length) := by
  have h2 : ∀ (s : Nat) (l : List It), (l.flatMap fun p => zs.map fun z => ((s, p.1, p.2, z) : Qd)).length = l.length * zs.length := by
    intro s l
    induction l with
    | nil => simp
    | cons p l ih => rw [List.flatMap_cons, List.length_append, ih, List.length_map, List.length_cons, Nat.succ_mul]; omega
  induction n with
  | zero => simp
  | succ n ih =>
    rw [List.range_succ, List.flatMap_append, List.length_append, ih]
    simp only [List.flatMap_cons, List.flatMap_nil, List.append_nil]
    rw [h2, Nat.succ_mul]
theorem PInv.len (t : Tc c) {l : List Qd} (i : PInv c l) : l.length ≤ 18200 := by
  have f := frOk t.ok
  have hA := f.allIt
  have hz : ((("$" : Str)) :: signsG c.rs).length ≤ 7 := by rw [List.length_cons]; have := t.rd.gok.s6; omega
  have hk := t.ok.tb.n40
  have h1 := nodup_len i.nd (m := (List.range c.ks.length).flatMap fun s => (allIt c.fr).flatMap fun p => ((("$" : Str)) :: signsG c.rs).map fun z => ((s, p.1, p.2, z) : Qd)) fun q hq => by
    have r := i.rc q hq
    obtain ⟨a, b, d⟩ := (r.qv t.ok t.lw).lt t.ok
    refine List.mem_flatMap.mpr ⟨q.1, List.mem_range.mpr d, List.mem_flatMap.mpr ⟨(q.2.1, q.2.2.1), mem_allIt.mpr ⟨a, b⟩, List.mem_map.mpr ⟨q.2.2.2, ?_, rfl⟩⟩⟩
    rcases r.sign t.ok with h | ⟨h1, h2⟩
    · rw [h]; exact List.mem_cons_self
    · exact .tail _ (mem_signs.mpr ⟨List.mem_append_right _ h1, h2⟩)
  rw [prod_len] at h1
  have h4 : (allIt c.fr).length * ((("$" : Str)) :: signsG c.rs).length ≤ 65 * 7 := Nat.mul_le_mul hA hz
  have h5 : c.ks.length * ((allIt c.fr).length * ((("$" : Str)) :: signsG c.rs).length) ≤ 40 * (65 * 7) := Nat.mul_le_mul hk h4
  omega
end Cx0
end LW
namespace LW
open PySem L2 DL
namespace Cx0
end Cx0
end LW
namespace LW
open PySem L2 DL
namespace Cx0
end Cx0
end LW
namespace LW
open PySem L2 DL
abbrev RowA := List (Str × List Ac)
def putR : RowA → Str → List Ac → RowA
  | [], x, w => [(x, w)]
  | (y, l) :: r, x, w => if y = x then (y, w) :: r else (y, l) :: putR r x w
def addR (r : RowA) (x : Str) (a : Ac) : RowA := match getB r x with
  | some l => if a ∈ l then r else putR r x (l ++ [a])
  | none => putR r x [a]
theorem getB_putR (y x : Str) (w : List Ac) : ∀ r : RowA, getB (putR r x w) y = if y = x then some w else getB r y
  | [] => by
    unfold putR
    rw [getB_cons]
    by_cases h : y = x
    · rw [if_pos h.symm, if_pos h]
    · rw [if_neg (fun e => h e.symm), if_neg h]
  | (z, l) :: r => by
    unfold putR
    by_cases h : z = x
    · rw [if_pos h, getB_cons, getB_cons]
      by_cases e : z = y
      · rw [if_pos e, if_pos (e ▸ h)]
      · rw [if_neg e, if_neg e, if_neg (fun k => e (h.trans k.symm))]
    · rw [if_neg h, getB_cons, getB_cons, getB_putR y x w r]
      by_cases e : z = y
      · rw [if_pos e, if_pos e, if_neg (fun k => h (e.trans k))]
      · rw [if_neg e, if_neg e]
theorem putR_len (x : Str) (w : List Ac) : ∀ r : RowA, (putR r x w).length ≤ r.length + 1
  | [] => by unfold putR; simp
  | (z, l) :: r => by
    unfold putR
    split
    · simp
    · rw [List.length_cons, List.length_cons]
      have := putR_len x w r
      omega
theorem addR_len (x : Str) (a : Ac) (r : RowA) : (addR r x a).length ≤ r.length + 1 := by
  unfold addR
  split
  · split
    · omega
    · exact putR_len _ _ _
  · exact putR_len _ _ _
structure RA (n : Nat) (r : RowA) : Prop where
  nd : ∀ x l, getB r x = some l → l.Nodup ∧ l ≠ [] ∧ l.length ≤ n
  ks : (r.map (·.1)).Nodup
  len : r.length ≤ n
theorem putR_keys (x : Str) (w : List Ac) : ∀ r : RowA, (putR r x w).map (·.1) = if x ∈ r.map (·.1) then r.map (·.1) else r.map (·.1) ++ [x]
  | [] => by unfold putR; simp
  | (z, l) :: r => by
    unfold putR
    by_cases h : z = x
    · rw [if_pos h, List.map_cons, List.map_cons, if_pos (by rw [← h]; exact List.mem_cons_self)]
    · rw [if_neg h, List.map_cons, List.map_cons, putR_keys x w r]
      by_cases hx : x ∈ r.map (·.1)
      · rw [if_pos hx, if_pos (.tail _ hx)]
      · rw [if_neg hx, if_neg (fun k => (List.mem_cons.mp k).elim (fun e => h e.symm) hx)]
        rfl
theorem nodup_snoc {α : Type} {l : List α} {x : α} (h : l.Nodup) (hx : x ∉ l) : (l ++ [x]).Nodup :=
  List.nodup_append.mpr ⟨h, by simp, fun a ha b hb => by
    simp only [List.mem_singleton] at hb
    subst hb; intro e; subst e; exact hx ha⟩
theorem putR_nd {r : RowA} (h : (r.map (·.1)).Nodup) (x : Str) (w : List Ac) : ((putR r x w).map (·.1)).Nodup := by
  rw [putR_keys]
  split
  · exact h
  · rename_i hn; exact nodup_snoc h hn
theorem RA.add {n : Nat} {r : RowA} (h : RA n r) (x : Str) (a : Ac) : RA (n + 1) (addR r x a) := by
  refine ⟨fun y m e => ?_, ?_, by have := addR_len x a r; have := h.len; omega⟩
  · unfold addR at e
    cases hg : getB r x with
    | none =>
      rw [hg] at e
      dsimp only at e
      rw [getB_putR] at e
      split at e
      · cases e; exact ⟨by simp, by simp, by simp⟩
      · obtain ⟨a1, a2, a3⟩ := h.nd y m e; exact ⟨a1, a2, by omega⟩
    | some l =>
      rw [hg] at e
      dsimp only at e
      split at e
      · obtain ⟨a1, a2, a3⟩ := h.nd y m e; exact ⟨a1, a2, by omega⟩
      · rename_i ha
        rw [getB_putR] at e
        split at e
        · cases e
          obtain ⟨a1, a2, a3⟩ := h.nd x l hg
          exact ⟨nodup_snoc a1 ha, by simp, by simp; omega⟩
        · obtain ⟨a1, a2, a3⟩ := h.nd y m e; exact ⟨a1, a2, by omega⟩
  · unfold addR
    split
    · split
      · exact h.ks
      · exact putR_nd h.ks _ _
    · exact putR_nd h.ks _ _
theorem RA.mono {n m : Nat} {r : RowA} (h : RA n r) (hm : n ≤ m) : RA m r := ⟨fun x l e => let ⟨a1, a2, a3⟩ := h.nd x l e; ⟨a1, a2, by omega⟩, h.ks, by have := h.len; omega⟩
namespace Cx0
variable {c : Cx0}
def fdS (c : Cx0) (F : List RowA) (q : Qd) : List RowA := match c.actQ q with
  | none => F
  | some a => F.set q.1 (addR (F.getD q.1 []) (c.keyQ q).2 a)
def fd0 (c : Cx0) : List RowA := c.rows.map fun _ => []
def foundR (c : Cx0) : List RowA := c.quadsP.foldl (fdS c) c.fd0
structure FInv (c : Cx0) (n : Nat) (F : List RowA) : Prop where
  len : F.length = c.rows.length
  ra : ∀ (s : Nat) (r : RowA), F[s]? = some r → RA n r
theorem FInv.step {n : Nat} {F : List RowA} (h : FInv c n F) {q : Qd} : FInv c (n + 1) (fdS c F q) := by
  unfold fdS
  split
  · exact ⟨h.len, fun s r e => (h.ra s r e).mono (by omega)⟩
  · rename_i a ha
    refine ⟨by rw [List.length_set]; exact h.len, fun s r e => ?_⟩
    by_cases hs : q.1 = s
    · subst hs
      by_cases hl : q.1 < F.length
      · rw [List.getElem?_set_self hl] at e
        cases e
        rw [List.getD_eq_getElem?_getD, List.getElem?_eq_getElem hl]
        exact (h.ra q.1 _ (List.getElem?_eq_getElem hl)).add _ _
      · rw [List.getElem?_eq_none (by rw [List.length_set]; omega)] at e; cases e
    · rw [List.getElem?_set_ne hs] at e
      exact (h.ra s r e).mono (by omega)
abbrev EP (c : Cx0) (v2 v3 v4 v5 v6 v7 v8 v9 v10 : SL) : DL.Env := [.val (.tup (c.fr.map rD)), .val (.lst (c.rows.map rowD)), v2, v3, v4, v5, v6, v7, v8, v9, v10]
end Cx0
end LW
namespace LW
open PySem L2 DL
namespace Cx0
end Cx0
end LW
namespace LW
open PySem L2 DL
def KH (fr : List Rl) (k : Ker) : Prop := ∃ p l, k = p :: l ∧ 1 ≤ p.2 ∧ ItOk fr p
section
variable {fr : List Rl}
def HdI (fr : List Rl) (ks : List Ker) : Prop := ks ≠ [] ∧ ∀ k ∈ ks.tail, KH fr k
theorem HdI.add {ks : List Ker} (h : HdI fr ks) {k : Ker} (hk : KH fr k) : HdI fr (ks ++ [k]) := by
  obtain ⟨h1, h2⟩ := h
  cases ks with
  | nil => exact absurd rfl h1
  | cons a l =>
    refine ⟨by simp, fun x hx => ?_⟩
    rw [List.cons_append, List.tail_cons] at hx
    rcases List.mem_append.mp hx with hx | hx
    · exact h2 x hx
    · rw [List.mem_singleton.mp hx]; exact hk
end
def hdR (r : RowA) : List (Str × Ac) := r.map fun p => (p.1, p.2.headD .acc)
def actRD (r : RowA) : D := .dct false false (kvsB D.str aD (hdR r))
namespace Cx0
end Cx0
end LW
namespace LW
open PySem L2 DL
def LdI (fr : List Rl) (ks : List Ker) : Prop := ∀ (n : Nat) (ker : Ker), ks[n]? = some ker → n = 0 ∨ ∃ b kb X, b < n ∧ ks[b]? = some kb ∧ X ∈ syms fr kb ∧ ker = kerTo fr kb X
section
variable {fr : List Rl}
theorem LdI.add {ks : List Ker} (h : LdI fr ks) {b : Nat} {kb : Ker} {X : Str} (hb : ks[b]? = some kb) (hX : X ∈ syms fr kb) : LdI fr (ks ++ [kerTo fr kb X]) := by
  intro n ker hn
  by_cases hl : n < ks.length
  · rw [List.getElem?_append_left hl] at hn
    rcases h n ker hn with e | ⟨b', kb', X', h1, h2, h3, h4⟩
    · exact .inl e
    · exact .inr ⟨b', kb', X', h1, by rw [List.getElem?_append_left (by omega)]; exact h2, h3, h4⟩
  · rw [List.getElem?_append_right (by omega)] at hn
    have hb2 := (List.getElem?_eq_some_iff.mp hb).1
    refine .inr ⟨b, kb, X, by omega, by rw [List.getElem?_append_left hb2]; exact hb, hX, ?_⟩
    cases hi : n - ks.length with
    | zero => rw [hi] at hn; exact (Option.some.inj hn).symm
    | succ m => rw [hi] at hn; simp at hn
end
end LW
namespace LW
open PySem L2 DL
namespace Cx0
variable {c : Cx0}
abbrev tA (c : Cx0) (as : List D) : SL := .tre true (.ins "Tables" [("grammar", .leaf (.ins "Grammar" (gFs c.rs))), ("kernels", .leaf (.lst (c.ks.map kT))), ("moves", .leaf (.lst (c.rows.map rowD))), ("count", .leaf (.int c.rows.length)), ("actions", .lst (as.map .leaf))])
abbrev tE (c : Cx0) (es : List Str) : SL := .tre true (.ins "Tables" [("grammar", .leaf (.ins "Grammar" (gFs c.rs))), ("kernels", .leaf (.lst (c.ks.map kT))), ("moves", .leaf (.lst (c.rows.map rowD))), ("count", .leaf (.int c.rows.length)), ("actions", .leaf (.lst (c.foundR.map actRD))), ("entries", .lst ((stD es).map .leaf))])
end Cx0
end LW
namespace LW
open PySem L2 DL
namespace Cx0
end Cx0
end LW
namespace LW
open PySem L2 DL
theorem getB_one (acts : Acts) (k : Nat × Str) : getB (oneA acts) k = (getB acts k).map fun l => l.headD .acc := by
  induction acts with
  | nil => rfl
  | cons p r ih =>
    obtain ⟨y, w⟩ := p
    unfold oneA at ih ⊢
    rw [List.map_cons, getB_cons, getB_cons, ih]
    dsimp only
    split <;> rfl
namespace Cx0
variable {c : Cx0}
def NoC (c : Cx0) : Prop := ∀ p ∈ c.actsR, p.2.length ≤ 1
def actR (c : Cx0) (s : Nat) (x : Str) : Option Ac := getB (oneA c.actsR) (s, x)
variable {fs : List (Str × D)}
end Cx0
end LW
namespace LW
open PySem L2 DL
end LW
namespace LW
open PySem L2 DL
variable {rs : List Rl}
theorem put_len (f : As) (x : Str) (w : Wd) : (putA f x w).length ≤ f.length + 1 := by
  unfold putA
  split <;> simp
end LW
namespace LW
open PySem L2 DL
theorem at_frL (fr : List Rl) (k : Nat) (h : k < fr.length) : atI (fr.map rL) (k : Int) = some (rL (ruA fr k)) := atI_nat (by
  unfold ruA
  rw [List.getElem?_map, List.getD_eq_getElem?_getD, List.getElem?_eq_getElem h]
  rfl)
theorem same8 {d : D} (h : PL 8 d) : appF (F__law_same 8) [.fz d, .fz d] = .ok (.fz (.bl true)) := appF_fz (evs := [.fz d, .fz d]) (same_refl 8 d h (by decide)) rfl
namespace Cx0
end Cx0
end LW
namespace LW
open PySem L2 DL
inductive Dvs (fr : List Rl) : List Str → List Str → Nat → Prop
  | nil : Dvs fr [] [] 0
  | sg {x : Str} {q w : List Str} {n : Nat} : sgB x = true → Dvs fr q w n → Dvs fr (x :: q) (x :: w) n
  | nm {k : Nat} {q u v : List Str} {n m : Nat} : k < fr.length → Dvs fr (ruA fr k).2 u n → Dvs fr q v m → Dvs fr ((ruA fr k).1 :: q) (u ++ v) (n + m + 1)
theorem Dvs.der {fr : List Rl} {q w : List Str} {n : Nat} (h : Dvs fr q w n) : DerS fr q w := by
  induction h with
  | nil => exact .nil
  | sg hs _ ih => exact .sg hs ih
  | nm hk _ _ ih1 ih2 => exact .nm hk ih1 ih2
theorem DerS.dvs {fr : List Rl} {q w : List Str} (h : DerS fr q w) : ∃ n, Dvs fr q w n := by
  induction h with
  | nil => exact ⟨0, .nil⟩
  | sg hs _ ih => obtain ⟨n, h⟩ := ih; exact ⟨n, .sg hs h⟩
  | nm hk _ _ ih1 ih2 => obtain ⟨n, h1⟩ := ih1; obtain ⟨m, h2⟩ := ih2; exact ⟨_, .nm hk h1 h2⟩
theorem Dvs.app {fr : List Rl} {p q u v : List Str} {n m : Nat} (h : Dvs fr p u n) (h2 : Dvs fr q v m) : Dvs fr (p ++ q) (u ++ v) (n + m) := by
  induction h with
  | nil => rw [Nat.zero_add]; exact h2
  | sg hs _ ih => exact .sg hs ih
  | @nm k q u v n m' hk hp _ _ ih =>
    rw [List.cons_append, List.append_assoc]
    have := Dvs.nm hk hp ih
    rwa [show n + (m' + m) + 1 = n + m' + 1 + m by omega] at this
theorem Dvs.fst {fr : List Rl} {q w : List Str} {n : Nat} (h : Dvs fr q w n) : ∀ {y : Str} {v : List Str}, w = y :: v → Fst fr q y := by
  induction h with
  | nil => intro y v e; cases e
  | sg hs _ _ => intro y v e; cases e; exact .sg hs
  | @nm k q u v n m hk h1 h2 ih1 ih2 =>
    intro y v' e
    cases u with
    | nil =>
      have e : v = y :: v' := e
      have := DerS.nm hk h1.der (DerS.nil (fr := fr))
      exact .sk (by simpa using this) (ih2 e)
    | cons a u =>
      rw [List.cons_append, List.cons.injEq] at e
      rw [← e.1]
      exact .nm hk (ih1 rfl)
namespace Cx0
variable (c : Cx0)
def go (s : Nat) (X : Str) : Nat := (goB c.rows s X).getD 0
abbrev Cf := List Nat × List Str
def stp : Cf → Option Cf
  | (s :: st, y :: ys) => match c.actR s y with
    | some (.sh p) => some (p :: s :: st, ys)
    | some (.red k) => (match (s :: st).drop (c.rgt k).length with
      | b :: st' => some (c.go b (ruA c.fr k).1 :: b :: st', y :: ys)
      | [] => none)
    | _ => none
  | _ => none
def runN : Nat → Cf → Option Cf
  | 0, x => some x
  | n + 1, x => (stp c x).bind (runN n)
def Ends (m : Nat) (x : Cf) : Prop := ∃ y, runN c m x = some y ∧ stp c y = none
def pth : Nat → List Str → List Nat → List Nat
  | s, [], st => s :: st
  | s, X :: q, st => pth (c.go s X) q (s :: st)
variable {c}
theorem runN_add (a b : Nat) (x : Cf) : runN c (a + b) x = (runN c a x).bind (runN c b) := by
  induction a generalizing x with
  | zero => rw [Nat.zero_add]; rfl
  | succ a ih =>
    rw [Nat.succ_add]
    show (stp c x).bind (runN c (a + b)) = ((stp c x).bind (runN c a)).bind (runN c b)
    cases stp c x with
    | none => rfl
    | some y => exact ih y
theorem runN_trans {a b : Nat} {x y z : Cf} (h : runN c a x = some y) (k : runN c b y = some z) : runN c (a + b) x = some z := by
  rw [runN_add, h]; exact k
theorem runN_one {x y : Cf} (h : stp c x = some y) : runN c 1 x = some y := by
  show (stp c x).bind (runN c 0) = some y
  rw [h]; rfl
theorem Ends.from {m : Nat} {x : Cf} (h : Ends c m x) {k : Nat} {y : Cf} (r : runN c k x = some y) : k ≤ m ∧ Ends c (m - k) y := by
  obtain ⟨z, h1, h2⟩ := h
  by_cases hk : k ≤ m
  · refine ⟨hk, z, ?_, h2⟩
    have : m = k + (m - k) := by omega
    rw [this, runN_add, r] at h1
    exact h1
  · exfalso
    have : k = m + (k - m - 1 + 1) := by omega
    rw [this, runN_add, h1] at r
    have r : (stp c z).bind (runN c (k - m - 1)) = some y := r
    rw [h2] at r
    cases r
theorem Ends.uniq {m m' : Nat} {x : Cf} (h : Ends c m x) (h' : Ends c m' x) : m = m' := by
  obtain ⟨y, h1, h2⟩ := h
  obtain ⟨y', h1', h2'⟩ := h'
  have a := (Ends.from ⟨y, h1, h2⟩ h1').1
  have b := (Ends.from ⟨y', h1', h2'⟩ h1).1
  omega
theorem Ends.ahead {k m : Nat} {x y : Cf} (r : runN c k x = some y) (h : Ends c m y) : Ends c (k + m) x := by
  obtain ⟨z, h1, h2⟩ := h
  exact ⟨z, runN_trans r h1, h2⟩
theorem pth_drop (q : List Str) : ∀ (s : Nat) (st : List Nat), (pth c s q st).drop q.length = s :: st := by
  induction q with
  | nil => intro s st; rfl
  | cons X q ih =>
    intro s st
    show (pth c (c.go s X) q (s :: st)).drop (q.length + 1) = s :: st
    rw [← List.drop_drop, ih]
    rfl
theorem actR_of (t : Tc c) (one : NoC c) {q : Qd} (r : Rc c q) {a : Ac} (ha : c.actQ q = some a) : c.actR (c.keyQ q).1 (c.keyQ q).2 = some a := by
  obtain ⟨l, h1, h2⟩ := (acts_iff t.ok t.lw (c.keyQ q) a).mpr ⟨q, r, rfl, ha⟩
  have hl := one _ (getB_mem h1)
  unfold actR
  rw [getB_one, h1]
  match l, hl, h2 with
  | [b], _, h2 => rw [List.mem_singleton] at h2; rw [h2]; rfl
theorem actR_inv (t : Tc c) {s : Nat} {x : Str} {a : Ac} (h : c.actR s x = some a) : ∃ q, Rc c q ∧ c.keyQ q = (s, x) ∧ c.actQ q = some a := by
  unfold actR at h
  rw [getB_one] at h
  obtain ⟨l, h1, h2⟩ := Option.map_eq_some_iff.mp h
  have hne := (acts_keys (c := c) c.qMax).2 _ (getB_mem h1)
  refine (acts_iff t.ok t.lw (s, x) a).mp ⟨l, h1, ?_⟩
  cases l with
  | nil => exact absurd rfl hne
  | cons b l => rw [← h2]; exact List.mem_cons_self
theorem ru_rs {k : Nat} (h : k < c.rs.length) : ruA c.fr k = ruA c.rs k := by rw [ru_lt h, ruA_at h]
theorem act_sg (t : Tc c) (one : NoC c) {s r d : Nat} {z x : Str} (h : Rc c (s, r, d, z)) (hx : (c.rgt r)[d]? = some x) (hs : sgB x = true) : c.actR s x = some (.sh (c.go s x)) := by
  have ha : c.actQ (s, r, d, z) = some (.sh (c.go s x)) := by
    unfold actQ
    dsimp only
    rw [hx]
    dsimp only
    rw [if_pos hs]
    rfl
  have hk : c.keyQ (s, r, d, z) = (s, x) := by
    unfold keyQ
    dsimp only
    rw [hx]
    dsimp only
    rw [if_pos hs]
  have := actR_of t one h ha
  rw [hk] at this
  exact this
theorem act_end (t : Tc c) (one : NoC c) {s r : Nat} {z : Str} (h : Rc c (s, r, (c.rgt r).length, z)) : c.actR s z = some (if r = c.rs.length then .acc else .red r) := by
  have hn : (c.rgt r)[(c.rgt r).length]? = none := List.getElem?_eq_none (Nat.le_refl _)
  have ha : c.actQ (s, r, (c.rgt r).length, z) = some (if r = c.rs.length then .acc else .red r) := by
    unfold actQ
    dsimp only
    rw [hn]
  have hk : c.keyQ (s, r, (c.rgt r).length, z) = (s, z) := by
    unfold keyQ
    dsimp only
    rw [hn]
  have := actR_of t one h ha
  rw [hk] at this
  exact this
def BehL (rs : List Rl) (q : List Str) (z y : Str) : Prop := Fst rs q y ∨ (y = z ∧ DerS rs q [])
theorem drop_at {q l : List Str} {X : Str} {d : Nat} (h : l.drop d = X :: q) : l[d]? = some X ∧ l.drop (d + 1) = q := by
  have h1 : l[d]? = some X := by
    have := congrArg List.head? h
    rw [List.head?_drop] at this
    exact this
  refine ⟨h1, ?_⟩
  have := congrArg List.tail h
  rw [List.tail_drop] at this
  exact this
theorem Rc.along {r : Nat} {z : Str} : ∀ (q : List Str) {s d : Nat} {q2 : List Str} (sk : List Nat), Rc c (s, r, d, z) → (c.rgt r).drop d = q ++ q2 → ∃ t st', pth c s q sk = t :: st' ∧ Rc c (t, r, d + q.length, z)
  | [], s, d, q2, sk, h, _ => ⟨s, sk, rfl, h⟩
  | X :: q, s, d, q2, sk, h, e => by
    obtain ⟨e1, e2⟩ := drop_at e
    obtain ⟨t, st', h1, h2⟩ := Rc.along q (s := c.go s X) (d := d + 1) (q2 := q2) (s :: sk) (.sh h e1) e2
    exact ⟨t, st', h1, by rw [List.length_cons, show d + (q.length + 1) = d + 1 + q.length by omega]; exact h2⟩
theorem follow (t : Tc c) (one : NoC c) {q w : List Str} {n : Nat} (h : Dvs c.rs q w n) : ∀ {s r d : Nat} {z y : Str} {q2 ys : List Str} (st : List Nat), Rc c (s, r, d, z) → (c.rgt r).drop d = q ++ q2 → BehL c.rs q2 z y →
    runN c (n + w.length) (s :: st, w ++ y :: ys) = some (pth c s q st, y :: ys) := by
  induction h with
  | nil => intro s r d z y q2 ys st _ _ _; rfl
  | @sg x q w n hs hd ih =>
    intro s r d z y q2 ys st hr e hb
    obtain ⟨e1, e2⟩ := drop_at e
    have h1 : stp c (s :: st, (x :: w) ++ y :: ys) = some (c.go s x :: s :: st, w ++ y :: ys) := by
      show (match c.actR s x with
        | some (.sh p) => some (p :: s :: st, w ++ y :: ys)
        | some (.red k) => (match (s :: st).drop (c.rgt k).length with
          | b :: st' => some (c.go b (ruA c.fr k).1 :: b :: st', x :: (w ++ y :: ys))
          | [] => none)
        | _ => none) = _
      rw [act_sg t one hr e1 hs]
    have h2 := ih (s := c.go s x) (ys := ys) (s :: st) (.sh hr e1) e2 hb
    have := runN_trans (runN_one h1) h2
    rw [List.length_cons, show n + (w.length + 1) = 1 + (n + w.length) by omega]
    exact this
  | @nm k q u v n m hk h1 h2 ih1 ih2 =>
    intro s r d z y q2 ys st hr e hb
    obtain ⟨e1, e2⟩ := drop_at e
    have ek : ruA c.fr k = ruA c.rs k := ru_rs hk
    have hkf : k < c.fr.length := by rw [fr_len]; omega
    obtain ⟨y1, ys1, ey⟩ : ∃ y1 ys1, v ++ y :: ys = y1 :: ys1 := by
      cases v with
      | nil => exact ⟨y, ys, rfl⟩
      | cons a v => exact ⟨a, v ++ y :: ys, rfl⟩
    have hbeh : Beh c (s, r, d, z) y1 := by
      unfold Beh
      dsimp only
      rw [e2]
      cases v with
      | nil =>
        have ey : y = y1 := by have := List.cons.inj ey; exact this.1
        subst ey
        rcases hb with hb | ⟨hb1, hb2⟩
        · exact .inl (Fst.skip h2.der hb)
        · exact .inr ⟨hb1, by have := h2.der.app hb2; simpa using this⟩
      | cons a v =>
        have ey : a = y1 := (List.cons.inj ey).1
        subst ey
        exact .inl ((h2.fst rfl).app q2)
    have hq : Rc c (s, k, 0, y1) := .cl hr e1 hkf (by rw [ek]) hbeh
    have hrg : c.rgt k = (ruA c.rs k).2 := by unfold rgt; rw [ek]
    have hd0 : (c.rgt k).drop 0 = (ruA c.rs k).2 ++ [] := by rw [List.drop_zero, List.append_nil, hrg]
    have r1 := ih1 (s := s) (y := y1) (ys := ys1) (q2 := []) st hq hd0 (.inr ⟨rfl, .nil⟩)
    obtain ⟨t1, st1, p1, hq1⟩ := Rc.along (ruA c.rs k).2 (q2 := []) st hq hd0
    rw [Nat.zero_add, ← hrg] at hq1
    have hact := act_end t one hq1
    rw [if_neg (by omega)] at hact
    have hdrop : (t1 :: st1).drop (c.rgt k).length = s :: st := by
      rw [← p1, hrg]
      exact pth_drop _ s st
    have r2 : stp c (pth c s (ruA c.rs k).2 st, y1 :: ys1) = some (c.go s (ruA c.rs k).1 :: s :: st, y1 :: ys1) := by
      rw [p1]
      show (match c.actR t1 y1 with
        | some (.sh p) => some (p :: t1 :: st1, ys1)
        | some (.red k) => (match (t1 :: st1).drop (c.rgt k).length with
          | b :: st' => some (c.go b (ruA c.fr k).1 :: b :: st', y1 :: ys1)
          | [] => none)
        | _ => none) = _
      rw [hact]
      dsimp only
      rw [hdrop]
      dsimp only
      rw [ek]
    have r3 := ih2 (s := c.go s (ruA c.rs k).1) (y := y) (ys := ys) (q2 := q2) (s :: st) (.sh hr e1) e2 hb
    rw [List.append_assoc, ey]
    rw [ey] at r3
    have := runN_trans (runN_trans r1 (runN_one r2)) r3
    rw [List.length_append, show n + m + 1 + (u.length + v.length) = n + u.length + 1 + (m + v.length) by omega]
    exact this
end Cx0
end LW
namespace LW
open PySem L2 DL
def Prd (rs : List Rl) (q : List Str) : Prop := ∀ x ∈ q, ∃ w, DerS rs [x] w
theorem Prd.der {rs : List Rl} : ∀ {q : List Str}, Prd rs q → ∃ w n, Dvs rs q w n
  | [], _ => ⟨[], 0, .nil⟩
  | x :: q, h => by
    obtain ⟨w, hw⟩ := h x List.mem_cons_self
    obtain ⟨n, hn⟩ := hw.dvs
    obtain ⟨v, m, hv⟩ := Prd.der (q := q) fun y hy => h y (.tail _ hy)
    exact ⟨w ++ v, n + m, hn.app hv⟩
theorem fst_ex {rs : List Rl} (hr : ∀ k < rs.length, Prd rs (ruA rs k).2) {q : List Str} {y : Str} (h : Fst rs q y) : Prd rs q → ∃ v n, Dvs rs q (y :: v) n := by
  induction h with
  | @sg x q hs =>
    intro hp
    obtain ⟨w, n, hw⟩ := Prd.der (q := q) fun y hy => hp y (.tail _ hy)
    exact ⟨w, n, .sg hs hw⟩
  | @nm k q x hk _ ih =>
    intro hp
    obtain ⟨v, n, h1⟩ := ih (hr k hk)
    obtain ⟨w, m, hw⟩ := Prd.der (q := q) fun y hy => hp y (.tail _ hy)
    exact ⟨v ++ w, _, .nm hk h1 hw⟩
  | @sk X q x h1 _ ih =>
    intro hp
    obtain ⟨v, n, h2⟩ := ih fun y hy => hp y (.tail _ hy)
    obtain ⟨m, h3⟩ := h1.dvs
    exact ⟨v, m + n, h3.app h2⟩
theorem sym_der {rs : List Rl} (rd : Rdg rs) {x : Str} (hx : sgB x = true ∨ x ∈ rs.map (·.1)) : ∃ w, DerS rs [x] w := by
  rcases hx with h | h
  · exact ⟨[x], .sg h .nil⟩
  · obtain ⟨r, hr, rfl⟩ := List.mem_map.mp h
    have := List.all_eq_true.mp rd.told r hr
    cases hg : getA (least rs) r.1 with
    | none => rw [hg] at this; cases this
    | some w => exact ⟨w, least_der hg⟩
theorem rule_prd {rs : List Rl} (rd : Rdg rs) {r : Rl} (hr : r ∈ rs) : Prd rs r.2 := fun x hx => sym_der rd (by
  cases hs : sgB x with
  | true => exact .inl rfl
  | false => exact .inr (rd.ws.cl r hr x hx hs))
namespace Cx0
variable {c : Cx0}
theorem rgt_prd (t : Tc c) {r : Nat} (hr : r < c.fr.length) : Prd c.rs (c.rgt r) := by
  by_cases h : r < c.rs.length
  · have e : c.rgt r = c.rs[r].2 := by unfold rgt; rw [ru_lt h]
    rw [e]
    exact rule_prd t.rd (List.getElem_mem h)
  · have e : r = c.rs.length := by rw [fr_len] at hr; omega
    have e2 : c.rgt r = [startG c.rs] := by unfold rgt; rw [e, ru_last]
    rw [e2]
    intro x hx
    rw [List.mem_singleton] at hx
    subst hx
    obtain ⟨r0, h1, h2⟩ := start_mem t.ok
    exact sym_der t.rd (.inr (List.mem_map.mpr ⟨r0, h1, h2⟩))
theorem rules_prd (t : Tc c) : ∀ k < c.rs.length, Prd c.rs (ruA c.rs k).2 := fun k hk => by
  rw [ruA_at hk]
  exact rule_prd t.rd (List.getElem_mem hk)
theorem Rc.lt' (t : Tc c) {q : Qd} (r : Rc c q) : q.2.1 < c.fr.length ∧ q.2.2.1 ≤ (c.rgt q.2.1).length ∧ q.1 < c.ks.length := (r.qv t.ok t.lw).lt t.ok
theorem at_ne (t : Tc c) {q : Qd} (r : Rc c q) {X : Str} (h : (c.rgt q.2.1)[q.2.2.1]? = some X) : X ≠ "" := fun e => by
  have := (rgt_ok t.ok (r.lt' t).1 X (List.mem_of_getElem? h)).2
  rw [e] at this
  exact not_sym_nil this
theorem drop_cons {l : List Str} {d : Nat} {X : Str} (h : l[d]? = some X) : l.drop d = X :: l.drop (d + 1) := by
  obtain ⟨hlt, e⟩ := List.getElem?_eq_some_iff.mp h
  rw [List.drop_eq_getElem_cons hlt, e]
theorem stp_red (t : Tc c) (one : NoC c) {s k : Nat} {y : Str} {st ys : List Str} {sk : List Nat} (hk : k < c.rs.length) (h : Rc c (s, k, 0, y)) : stp c (pth c s (c.rgt k) sk, y :: ys) = some (c.go s (ruA c.fr k).1 :: s :: sk, y :: ys) := by
  obtain ⟨t1, st1, p1, hq1⟩ := Rc.along (c.rgt k) (q2 := []) sk h (by rw [List.drop_zero, List.append_nil])
  rw [Nat.zero_add] at hq1
  have hact := act_end t one hq1
  rw [if_neg (by omega)] at hact
  have hdrop : (t1 :: st1).drop (c.rgt k).length = s :: sk := by
    rw [← p1]
    exact pth_drop _ s sk
  rw [p1]
  show (match c.actR t1 y with
    | some (.sh p) => some (p :: t1 :: st1, ys)
    | some (.red k) => (match (t1 :: st1).drop (c.rgt k).length with
      | b :: st' => some (c.go b (ruA c.fr k).1 :: b :: st', y :: ys)
      | [] => none)
    | _ => none) = _
  rw [hact]
  dsimp only
  rw [hdrop]
def Live (c : Cx0) (q : Qd) : Prop := ∃ st rest m, Ends c m (pth c q.1 ((c.rgt q.2.1).drop q.2.2.1) st, q.2.2.2 :: rest)
theorem Rc.live (t : Tc c) (one : NoC c) {q : Qd} (r : Rc c q) : Live c q := by
  induction r with
  | st =>
    have e2 : c.rgt c.rs.length = [startG c.rs] := by unfold rgt; rw [ru_last]
    have h1 : Rc c (c.go 0 (startG c.rs), c.rs.length, 1, ("$" : Str)) := by
      have : Rc c ((goB c.rows 0 (startG c.rs)).getD 0, c.rs.length, 0 + 1, ("$" : Str)) := .sh .st (by dsimp only; rw [e2]; rfl)
      exact this
    have h2 : Rc c (c.go 0 (startG c.rs), c.rs.length, (c.rgt c.rs.length).length, ("$" : Str)) := by rw [e2]; exact h1
    have ha := act_end t one h2
    rw [if_pos rfl] at ha
    refine ⟨[], [], 0, _, rfl, ?_⟩
    dsimp only
    rw [e2]
    show (match c.actR (c.go 0 (startG c.rs)) "$" with
      | some (.sh p) => _
      | some (.red k) => _
      | _ => none) = none
    rw [ha]
  | @sh q X r hX ih =>
    obtain ⟨st, rest, m, h⟩ := ih
    refine ⟨q.1 :: st, rest, m, ?_⟩
    dsimp only
    rw [drop_cons hX] at h
    exact h
  | @cl q X k y r hX hk e hb ih =>
    obtain ⟨st, rest, m, h⟩ := ih
    obtain ⟨s, r0, d, z⟩ := q
    dsimp only at hX h hb
    have hr0 := (r.lt' t).1
    have hne := at_ne t r hX
    have hkn : k < c.rs.length := by
      by_cases hz : k < c.rs.length
      · exact hz
      · exfalso
        have : k = c.rs.length := by rw [fr_len] at hk; omega
        rw [this, ru_last] at e
        exact hne e.symm
    have hq : Rc c (s, k, 0, y) := .cl r hX hk e hb
    have hprd : Prd c.rs ((c.rgt r0).drop (d + 1)) := fun x hx => rgt_prd t hr0 x (List.mem_of_mem_drop hx)
    obtain ⟨v, n, hv, rest2, hy⟩ : ∃ v n, Dvs c.rs ((c.rgt r0).drop (d + 1)) v n ∧ ∃ rest2, v ++ z :: rest = y :: rest2 := by
      rcases hb with hb | ⟨hb1, hb2⟩
      · obtain ⟨v, n, h1⟩ := fst_ex (rules_prd t) hb hprd
        exact ⟨y :: v, n, h1, v ++ z :: rest, rfl⟩
      · obtain ⟨n, h1⟩ := hb2.dvs
        have hb1 : y = z := hb1
        exact ⟨[], n, h1, rest, by rw [hb1]; rfl⟩
    have h1 := stp_red t one (st := []) (ys := rest2) (sk := st) hkn hq
    have hsh : Rc c (c.go s X, r0, d + 1, z) := .sh r hX
    have h2 := follow t one hv (ys := rest) (q2 := []) (s :: st) hsh (by rw [List.append_nil]) (.inr ⟨rfl, .nil⟩)
    rw [drop_cons hX] at h
    have h3 := (runN_one h1)
    rw [e, ← hy] at h3
    exact ⟨st, rest2, _, by
      dsimp only
      rw [List.drop_zero, ← hy]
      exact Ends.ahead h3 (Ends.ahead h2 h)⟩
theorem uniq_at (t : Tc c) (one : NoC c) {q : Qd} (r : Rc c q) {X : Str} (hX : (c.rgt q.2.1)[q.2.2.1]? = some X) {w : List Str} {n n' : Nat} (h : Dvs c.rs [X] w n) (h' : Dvs c.rs [X] w n') : n = n' := by
  obtain ⟨st, rest, m, hl⟩ := r.live t one
  obtain ⟨s, r0, d, z⟩ := q
  dsimp only at hX hl
  have hr0 := (r.lt' t).1
  have hprd : Prd c.rs ((c.rgt r0).drop (d + 1)) := fun x hx => rgt_prd t hr0 x (List.mem_of_mem_drop hx)
  obtain ⟨v, m2, hv⟩ := hprd.der
  rw [drop_cons hX] at hl
  have hsh : Rc c (c.go s X, r0, d + 1, z) := .sh r hX
  have h2 := follow t one hv (ys := rest) (q2 := []) (s :: st) hsh (by rw [List.append_nil]) (.inr ⟨rfl, .nil⟩)
  have hB := Ends.ahead h2 hl
  obtain ⟨y, ys, ey, hb⟩ : ∃ y ys, v ++ z :: rest = y :: ys ∧ BehL c.rs ((c.rgt r0).drop (d + 1)) z y := by
    cases v with
    | nil => exact ⟨z, rest, rfl, .inr ⟨rfl, hv.der⟩⟩
    | cons a v => exact ⟨a, v ++ z :: rest, rfl, .inl (hv.fst rfl)⟩
  rw [ey] at hB
  have hA : ∀ {k : Nat}, Dvs c.rs [X] w k → runN c (k + w.length) (s :: st, w ++ y :: ys) = some (c.go s X :: s :: st, y :: ys) := fun {k} hk => follow t one hk (q2 := (c.rgt r0).drop (d + 1)) st r (by rw [drop_cons hX]; rfl) hb
  have := Ends.uniq (Ends.ahead (hA h) hB) (Ends.ahead (hA h') hB)
  omega
theorem beh_ex (t : Tc c) {q : Qd} (r : Rc c q) : ∃ y, Beh c q y := by
  have hprd : Prd c.rs ((c.rgt q.2.1).drop (q.2.2.1 + 1)) := fun x hx => rgt_prd t (r.lt' t).1 x (List.mem_of_mem_drop hx)
  obtain ⟨v, n, hv⟩ := hprd.der
  cases v with
  | nil => exact ⟨q.2.2.2, .inr ⟨rfl, hv.der⟩⟩
  | cons a v => exact ⟨a, .inl (hv.fst rfl)⟩
theorem met (t : Tc c) {x : Str} (h : Rch c.rs (startG c.rs) x) : ∃ q, Rc c q ∧ (c.rgt q.2.1)[q.2.2.1]? = some x := by
  induction h with
  | st => exact ⟨_, .st, by dsimp only; unfold rgt; rw [ru_last]; rfl⟩
  | @go r x hr _ hx _ ih =>
    obtain ⟨q, h1, h2⟩ := ih
    obtain ⟨y, hy⟩ := beh_ex t h1
    obtain ⟨k, hk, hkr⟩ := List.getElem_of_mem hr
    have ek : ruA c.fr k = r := by rw [ru_lt hk, hkr]
    have hq : Rc c (q.1, k, 0, y) := .cl h1 h2 (by rw [fr_len]; omega) (by rw [ek]) hy
    obtain ⟨d, hd, hdx⟩ := List.getElem_of_mem hx
    have erg : c.rgt k = r.2 := by unfold rgt; rw [ek]
    obtain ⟨t1, st1, _, h3⟩ := Rc.along ((c.rgt k).take d) (q2 := (c.rgt k).drop d) [] hq (by rw [List.drop_zero, List.take_append_drop])
    have hdl : ((c.rgt k).take d).length = d := by rw [List.length_take, erg]; omega
    rw [hdl, Nat.zero_add] at h3
    exact ⟨_, h3, by dsimp only; rw [erg, List.getElem?_eq_getElem hd, hdx]⟩
theorem uniq_name (t : Tc c) (one : NoC c) {X : Str} (hX : X ∈ c.rs.map (·.1)) {w : List Str} {n n' : Nat} (h : Dvs c.rs [X] w n) (h' : Dvs c.rs [X] w n') : n = n' := by
  obtain ⟨r, hr, rfl⟩ := List.mem_map.mp hX
  obtain ⟨q, h1, h2⟩ := met t (kept_inv t.rd.kept r hr)
  exact uniq_at t one h1 h2 h h'
end Cx0
end LW
namespace LW
open PySem L2 DL
inductive Dvl (fr : List Rl) : List Str → List Str → Nat → Prop
  | nil : Dvl fr [] [] 0
  | lf {x : Str} {q w : List Str} {n : Nat} : Dvl fr q w n → Dvl fr (x :: q) (x :: w) n
  | nm {k : Nat} {q u v : List Str} {n m : Nat} : k < fr.length → Dvl fr (ruA fr k).2 u n → Dvl fr q v m → Dvl fr ((ruA fr k).1 :: q) (u ++ v) (n + m + 1)
theorem Dvl.dvs {fr : List Rl} {q w : List Str} {n : Nat} (h : Dvl fr q w n) : (∀ x ∈ w, sgB x = true) → Dvs fr q w n := by
  induction h with
  | nil => intro _; exact .nil
  | @lf x q w n _ ih => intro hw; exact .sg (hw x List.mem_cons_self) (ih fun y hy => hw y (.tail _ hy))
  | @nm k q u v n m hk _ _ ih1 ih2 => intro hw; exact .nm hk (ih1 fun y hy => hw y (List.mem_append_left _ hy)) (ih2 fun y hy => hw y (List.mem_append_right _ hy))
theorem Dvl.app {fr : List Rl} {p q u v : List Str} {n m : Nat} (h : Dvl fr p u n) (h2 : Dvl fr q v m) : Dvl fr (p ++ q) (u ++ v) (n + m) := by
  induction h with
  | nil => rw [Nat.zero_add]; exact h2
  | lf _ ih => exact .lf ih
  | @nm k q u v n m' hk hp _ _ ih =>
    rw [List.cons_append, List.append_assoc]
    have := Dvl.nm hk hp ih
    rwa [show n + (m' + m) + 1 = n + m' + 1 + m by omega] at this
theorem Dvl.sub {fr : List Rl} {q w : List Str} {n : Nat} (h : Dvl fr q w n) (fw : Str → List Str) (fn : Str → Nat) : (∀ x ∈ w, Dvs fr [x] (fw x) (fn x)) → Dvs fr q (w.flatMap fw) (n + (w.map fn).sum) := by
  induction h with
  | nil => intro _; exact .nil
  | @lf x q w n _ ih =>
    intro hw
    have h1 := (hw x List.mem_cons_self).app (ih fun y hy => hw y (.tail _ hy))
    rw [List.flatMap_cons, List.map_cons, List.sum_cons]
    rwa [show fn x + (n + (w.map fn).sum) = n + (fn x + (w.map fn).sum) by omega] at h1
  | @nm k q u v n m hk _ _ ih1 ih2 =>
    intro hw
    have h1 := Dvs.nm hk (ih1 fun y hy => hw y (List.mem_append_left _ hy)) (ih2 fun y hy => hw y (List.mem_append_right _ hy))
    rw [List.flatMap_append, List.map_append, List.sum_append]
    rwa [show n + (u.map fn).sum + (m + (v.map fn).sum) + 1 = n + m + 1 + ((u.map fn).sum + (v.map fn).sum) by omega] at h1
theorem Dvl.syms {fr : List Rl} {S : Str → Prop} (hr : ∀ k < fr.length, ∀ x ∈ (ruA fr k).2, S x) {q w : List Str} {n : Nat} (h : Dvl fr q w n) : (∀ x ∈ q, S x) → ∀ x ∈ w, S x := by
  induction h with
  | nil => intro _ x hx; cases hx
  | @lf x q w n _ ih =>
    intro hq y hy
    rcases List.mem_cons.mp hy with rfl | hy
    · exact hq _ List.mem_cons_self
    · exact ih (fun z hz => hq z (.tail _ hz)) y hy
  | @nm k q u v n m hk _ _ ih1 ih2 =>
    intro hq y hy
    rcases List.mem_append.mp hy with hy | hy
    · exact ih1 (hr k hk) y hy
    · exact ih2 (fun z hz => hq z (.tail _ hz)) y hy
theorem Dvl.cons_inv {rs : List Rl} {X : Str} {q w : List Str} {n : Nat} (h : Dvl rs (X :: q) w n) : ∃ u v a b, w = u ++ v ∧ Dvl rs [X] u a ∧ Dvl rs q v b ∧ n = a + b := by
  generalize hs : X :: q = s at h
  cases h with
  | nil => cases hs
  | @lf x r w n hd =>
    cases hs
    exact ⟨[X], w, 0, n, rfl, .lf .nil, hd, by omega⟩
  | @nm k r u v n m hk h1 h2 =>
    cases hs
    exact ⟨u, v, n + 1, m, rfl, by have := Dvl.nm hk h1 (.nil (fr := rs)); simpa using this, h2, by omega⟩
theorem Dvl.nil_inv {rs : List Rl} {w : List Str} {n : Nat} (h : Dvl rs [] w n) : w = [] ∧ n = 0 := by
  cases h with
  | nil => exact ⟨rfl, rfl⟩
theorem Dvl.one_inv {rs : List Rl} {X : Str} {w : List Str} {n : Nat} (h : Dvl rs [X] w n) : (w = [X] ∧ n = 0) ∨ ∃ k m, k < rs.length ∧ (ruA rs k).1 = X ∧ Dvl rs (ruA rs k).2 w m ∧ n = m + 1 := by
  generalize hs : [X] = s at h
  cases h with
  | nil => cases hs
  | @lf x r w n hd =>
    cases hs
    obtain ⟨e1, e2⟩ := hd.nil_inv
    exact .inl ⟨by rw [e1], e2⟩
  | @nm k r u v n m hk h1 h2 =>
    cases hs
    obtain ⟨e1, e2⟩ := h2.nil_inv
    exact .inr ⟨k, n, hk, rfl, by rw [e1, List.append_nil]; exact h1, by omega⟩
theorem eps_sum {rs : List Rl} {B M : Nat} : ∀ (q : List Str) (n : Nat), Dvl rs q [] n → n ≤ M → (∀ Y ∈ q, ∀ m, m ≤ M → Dvl rs [Y] [] m → m ≤ B) → n ≤ q.length * B
  | [], n, h, _, _ => by rw [h.nil_inv.2]; omega
  | X :: q, n, h, hM, hB => by
    obtain ⟨u, v, a, b, e, h1, h2, rfl⟩ := h.cons_inv
    obtain ⟨rfl, rfl⟩ := List.append_eq_nil_iff.mp e.symm
    have k1 := hB X List.mem_cons_self a (by omega) h1
    have k2 := eps_sum q b h2 (by omega) fun Y hY => hB Y (.tail _ hY)
    rw [List.length_cons, Nat.succ_mul]
    omega
def epsS : Nat → Nat
  | 0 => 0
  | f + 1 => 1 + 4 * epsS f
structure Uq (rs : List Rl) (NL : List Str) : Prop where
  nl : ∀ r ∈ rs, r.1 ∈ NL
  l6 : NL.length ≤ 6
  l4 : ∀ r ∈ rs, r.2.length ≤ 4
  u : ∀ {X : Str} {w : List Str} {n n' : Nat}, X ∈ rs.map (·.1) → Dvl rs [X] w n → Dvl rs [X] w n' → n = n'
section
variable {rs : List Rl} {NL : List Str}
theorem ru_in {k : Nat} (hk : k < rs.length) : ruA rs k ∈ rs := by
  have : ruA rs k = rs[k] := ruA_at hk
  rw [this]
  exact List.getElem_mem hk
theorem uq_fresh (o : Uq rs NL) {F : List Str} {X : Str} {w : List Str} {n : Nat} (hX : X ∈ rs.map (·.1)) (hF : ∀ Z ∈ F, Z ∈ NL ∧ ∃ m, n < m ∧ Dvl rs [Z] w m) (h : Dvl rs [X] w n) : X ∉ F := fun hm => by
  obtain ⟨_, m, hlt, hd⟩ := hF X hm
  have := o.u hX h hd
  omega
theorem uq_room (o : Uq rs NL) {F : List Str} {X : Str} (hn : F.Nodup) (hF : ∀ Z ∈ F, Z ∈ NL) (hX : X ∈ rs.map (·.1)) (hx : X ∉ F) : F.length + 1 ≤ NL.length := by
  obtain ⟨r, hr, rfl⟩ := List.mem_map.mp hX
  have : (r.1 :: F).Nodup := List.nodup_cons.mpr ⟨hx, hn⟩
  have := nodup_len this (m := NL) fun Z hZ => by
    rcases List.mem_cons.mp hZ with rfl | hZ
    · exact o.nl r hr
    · exact hF Z hZ
  rw [List.length_cons] at this
  exact this
theorem eps_bd (o : Uq rs NL) : ∀ (f n : Nat) (F : List Str) (X : Str), F.Nodup → (∀ Z ∈ F, Z ∈ NL ∧ ∃ m, n < m ∧ Dvl rs [Z] [] m) → NL.length ≤ F.length + f → Dvl rs [X] [] n → n ≤ epsS f
  | f, n, F, X, hn, hF, hl, h => by
    rcases h.one_inv with ⟨e, _⟩ | ⟨k, m, hk, e, h1, rfl⟩
    · cases e
    · have hX : X ∈ rs.map (·.1) := by rw [← e]; exact List.mem_map.mpr ⟨_, ru_in hk, rfl⟩
      have hx := uq_fresh o hX hF h
      have hr := uq_room o hn (fun Z hZ => (hF Z hZ).1) hX hx
      cases f with
      | zero => omega
      | succ f =>
        have h4 := o.l4 _ (ru_in hk)
        have hb := eps_sum (B := epsS f) (M := m) (ruA rs k).2 m h1 (Nat.le_refl _) fun Y _ a ha hY =>
          eps_bd o f a (X :: F) Y (List.nodup_cons.mpr ⟨hx, hn⟩) (fun Z hZ => by
            rcases List.mem_cons.mp hZ with rfl | hZ
            · exact ⟨by rw [← e]; exact o.nl _ (ru_in hk), m + 1, by omega, h⟩
            · obtain ⟨g1, b, g2, g3⟩ := hF Z hZ
              exact ⟨g1, b, by omega, g3⟩) (by rw [List.length_cons]; omega) hY
        have := Nat.mul_le_mul_right (epsS f) h4
        show m + 1 ≤ 1 + 4 * epsS f
        omega
theorem eps_all (o : Uq rs NL) {X : Str} {n : Nat} (h : Dvl rs [X] [] n) : n ≤ 1365 := by
  have := eps_bd o 6 n [] X List.nodup_nil (fun Z hZ => by cases hZ) (by have := o.l6; simp; omega) h
  exact Nat.le_trans this (by decide)
theorem eps_list (o : Uq rs NL) {q : List Str} {n : Nat} (h : Dvl rs q [] n) : n ≤ q.length * 1365 := eps_sum (M := n) q n h (Nat.le_refl _) fun Y _ m _ hY => eps_all o hY
theorem split_first : ∀ (q : List Str) {w : List Str} {n : Nat}, Dvl rs q w n → w ≠ [] → ∃ p Y r u v a b d, q = p ++ Y :: r ∧ w = u ++ v ∧ u ≠ [] ∧ Dvl rs p [] a ∧ Dvl rs [Y] u b ∧ Dvl rs r v d ∧ n = a + b + d
  | [], w, n, h, hw => absurd h.nil_inv.1 hw
  | X :: q, w, n, h, hw => by
    obtain ⟨u, v, a, b, e, h1, h2, rfl⟩ := h.cons_inv
    cases u with
    | nil =>
      have e : w = v := e
      subst e
      obtain ⟨p, Y, r, u', v', a', b', d', e1, e2, e3, g1, g2, g3, e4⟩ := split_first q h2 hw
      exact ⟨X :: p, Y, r, u', v', a + a', b', d', by rw [e1]; rfl, e2, e3, by have := h1.app g1; simpa using this, g2, g3, by omega⟩
    | cons x u => exact ⟨[], X, q, x :: u, v, 0, a, b, rfl, e, by simp, .nil, h1, h2, by omega⟩
theorem rest_bd (o : Uq rs NL) {K M : Nat} : ∀ (q : List Str) {v : List Str} {n : Nat}, Dvl rs q v n → v ≠ [] → v.length ≤ M → (∀ Y u m, u ≠ [] → u.length ≤ M → Dvl rs [Y] u m → m ≤ K * (2 * u.length - 1)) → n ≤ q.length * 1365 + K * (2 * v.length - 1)
  | [], v, n, h, hv, _, _ => absurd h.nil_inv.1 hv
  | X :: q, v, n, h, hv, hM, hK => by
    obtain ⟨u1, v1, a, b, e, h1, h2, rfl⟩ := h.cons_inv
    subst e
    rw [List.length_append] at hM ⊢
    rw [List.length_cons, Nat.succ_mul]
    by_cases z1 : u1 = []
    · subst z1
      have k1 := eps_all o h1
      have k2 := rest_bd o q h2 (by simpa using hv) (by simp at hM; omega) hK
      simp only [List.length_nil, Nat.zero_add]
      omega
    · have k1 := hK X u1 a z1 (by omega) h1
      by_cases z2 : v1 = []
      · subst z2
        have k2 := eps_list o h2
        simp only [List.length_nil, Nat.add_zero]
        omega
      · have k2 := rest_bd o q h2 z2 (by omega) hK
        have p1 : 0 < u1.length := List.length_pos_iff.mpr z1
        have p2 : 0 < v1.length := List.length_pos_iff.mpr z2
        have : K * (2 * (u1.length + v1.length) - 1) = K * (2 * u1.length - 1) + K * (2 * v1.length - 1) + K := by
          rw [← Nat.mul_add, ← Nat.mul_succ]
          congr 1
          omega
        omega
theorem key_bd (o : Uq rs NL) : ∀ (M f n : Nat) (F : List Str) (X : Str) (w : List Str), w.length = M → w ≠ [] → F.Nodup → (∀ Z ∈ F, Z ∈ NL ∧ ∃ m, n < m ∧ Dvl rs [Z] w m) → NL.length ≤ F.length + f → Dvl rs [X] w n → n ≤ f * 4096 + 24576 * (2 * M - 2)
  | M, f, n, F, X, w, hM, hw, hn, hF, hl, h => by
    rcases h.one_inv with ⟨_, e⟩ | ⟨k, m, hk, e, h1, rfl⟩
    · omega
    · have hX : X ∈ rs.map (·.1) := by rw [← e]; exact List.mem_map.mpr ⟨_, ru_in hk, rfl⟩
      have hx := uq_fresh o hX hF h
      have hr := uq_room o hn (fun Z hZ => (hF Z hZ).1) hX hx
      have h4 := o.l4 _ (ru_in hk)
      cases f with
      | zero => omega
      | succ f =>
        obtain ⟨p, Y, r, u, v, a, b, d, e1, e2, e3, g1, g2, g3, e4⟩ := split_first _ h1 hw
        have hlen : p.length + r.length ≤ 3 := by
          have := congrArg List.length e1
          rw [List.length_append, List.length_cons] at this
          omega
        have ka := eps_list o g1
        have hul : 0 < u.length := List.length_pos_iff.mpr e3
        by_cases hv : v = []
        · subst hv
          rw [List.append_nil] at e2
          subst e2
          have kd := eps_list o g3
          have kb := key_bd o M f b (X :: F) Y w hM hw (List.nodup_cons.mpr ⟨hx, hn⟩) (fun Z hZ => by
            rcases List.mem_cons.mp hZ with rfl | hZ
            · exact ⟨by rw [← e]; exact o.nl _ (ru_in hk), m + 1, by omega, h⟩
            · obtain ⟨g1, b', g2, g3⟩ := hF Z hZ
              exact ⟨g1, b', by omega, g3⟩) (by rw [List.length_cons]; omega) g2
          have : p.length * 1365 + r.length * 1365 ≤ 3 * 1365 := by rw [← Nat.add_mul]; exact Nat.mul_le_mul_right _ hlen
          rw [Nat.succ_mul]
          omega
        · have hvl : 0 < v.length := List.length_pos_iff.mpr hv
          have hML : M = u.length + v.length := by rw [← hM, e2, List.length_append]
          have small : ∀ (Y : Str) (u' : List Str) (m' : Nat), u' ≠ [] → u'.length < M → Dvl rs [Y] u' m' → m' ≤ 24576 * (2 * u'.length - 1) := fun Y u' m' hne hlt hd => by
            have := key_bd o u'.length 6 m' [] Y u' rfl hne List.nodup_nil (fun Z hZ => by cases hZ) (by have := o.l6; simp; omega) hd
            have hp : 0 < u'.length := List.length_pos_iff.mpr hne
            have e : 24576 * (2 * u'.length - 1) = 24576 * (2 * u'.length - 2) + 24576 := by omega
            omega
          have kb := small Y u b e3 (by omega) g2
          have kd := rest_bd o (K := 24576) (M := v.length) r g3 hv (Nat.le_refl _) fun Y u' m' hne hle hd => small Y u' m' hne (by omega) hd
          have : p.length * 1365 + r.length * 1365 ≤ 3 * 1365 := by rw [← Nat.add_mul]; exact Nat.mul_le_mul_right _ hlen
          rw [Nat.succ_mul]
          omega
termination_by M f => (M, f)
theorem key_all (o : Uq rs NL) {X : Str} {w : List Str} {n : Nat} (h : Dvl rs [X] w n) : n ≤ 1365 + 49152 * w.length := by
  by_cases hw : w = []
  · subst hw
    have := eps_all o h
    omega
  · have := key_bd o w.length 6 n [] X w rfl hw List.nodup_nil (fun Z hZ => by cases hZ) (by have := o.l6; simp; omega) h
    have hp : 0 < w.length := List.length_pos_iff.mpr hw
    omega
end
namespace Cx0
variable {c : Cx0}
theorem uniq_sent (t : Tc c) (one : NoC c) {X : Str} (hX : X ∈ c.rs.map (·.1)) {w : List Str} {n n' : Nat} (h : Dvl c.rs [X] w n) (h' : Dvl c.rs [X] w n') : n = n' := by
  have hs : ∀ x ∈ w, sgB x = true ∨ x ∈ c.rs.map (·.1) := h.syms (S := fun x => sgB x = true ∨ x ∈ c.rs.map (·.1)) (fun k hk x hx => by
    rw [ruA_at hk] at hx
    cases hs : sgB x with
    | true => exact .inl rfl
    | false => exact .inr (t.rd.ws.cl _ (List.getElem_mem hk) x hx hs)) (fun x hx => by
      rw [List.mem_singleton] at hx
      subst hx
      exact .inr hX)
  have hd : ∀ x : Str, ∃ p : List Str × Nat, x ∈ w → Dvs c.rs [x] p.1 p.2 := fun x => by
    by_cases hx : x ∈ w
    · obtain ⟨v, hv⟩ := sym_der t.rd (hs x hx)
      obtain ⟨m, hm⟩ := hv.dvs
      exact ⟨(v, m), fun _ => hm⟩
    · exact ⟨([], 0), fun z => absurd z hx⟩
  obtain ⟨f, hf⟩ := Classical.axiomOfChoice hd
  have k1 := h.sub (fun x => (f x).1) (fun x => (f x).2) hf
  have k2 := h'.sub (fun x => (f x).1) (fun x => (f x).2) hf
  have := uniq_name t one hX k1 k2
  omega
theorem uq_of (t : Tc c) (one : NoC c) : ∃ NL, Uq c.rs NL := by
  obtain ⟨NL, h1, h2⟩ := t.rd.ws.nl
  exact ⟨NL, h1, h2, fun r hr => t.rd.ws.ro.len r hr, fun hX h h' => uniq_sent t one hX h h'⟩
end Cx0
end LW
namespace LW
open PySem L2 DL
theorem cl_src {fr : List Rl} {ker : Ker} : ∀ i, ∀ x ∈ cl fr ker i, x ∈ ker ∨ (x.2 = 0 ∧ ∃ p ∈ cl fr ker i, symI fr p = some (ruA fr x.1).1)
  | 0, x, hx => .inl hx
  | i + 1, x, hx => by
    obtain ⟨tl, ht⟩ := cl_mono (fr := fr) (ker := ker) (i := i)
    have up : ∀ p, p ∈ cl fr ker i → p ∈ cl fr ker (i + 1) := fun p hp => by rw [ht]; exact List.mem_append_left _ hp
    have old : x ∈ cl fr ker i → x ∈ ker ∨ (x.2 = 0 ∧ ∃ p ∈ cl fr ker (i + 1), symI fr p = some (ruA fr x.1).1) := fun h => by
      rcases cl_src i x h with h | ⟨h1, p, h2, h3⟩
      · exact .inl h
      · exact .inr ⟨h1, p, up p h2, h3⟩
    have hx' : x ∈ (match (cl fr ker i)[i]? with
      | some it => cloN fr (symI fr it) (cl fr ker i) fr.length
      | none => cl fr ker i) := hx
    cases hi : (cl fr ker i)[i]? with
    | none => rw [hi] at hx'; exact old hx'
    | some it =>
      rw [hi] at hx'
      rcases cloN_inv _ hx' with h | ⟨k, _, rfl, h2⟩
      · exact old h
      · exact .inr ⟨rfl, it, up it (List.mem_of_getElem? hi), h2⟩
theorem closed_src {fr : List Rl} {ker : Ker} {x : It} (h : x ∈ closed fr ker) : x ∈ ker ∨ (x.2 = 0 ∧ ∃ p ∈ closed fr ker, symI fr p = some (ruA fr x.1).1) := cl_src _ x h
abbrev El := Str × List Str × Nat
def wtE (es : List El) : Nat := (es.map (·.2.2)).sum
def txE : List El → List Str
  | [] => []
  | e :: es => txE es ++ e.2.1
theorem wtE_app (a b : List El) : wtE (a ++ b) = wtE a + wtE b := by unfold wtE; simp
theorem wtE_cons (e : El) (es : List El) : wtE (e :: es) = e.2.2 + wtE es := by unfold wtE; simp
theorem txE_app : ∀ (a b : List El), txE (a ++ b) = txE b ++ txE a
  | [], b => by simp [txE]
  | e :: a, b => by rw [List.cons_append, txE, txE, txE_app a b, List.append_assoc]
namespace Cx0
inductive Pile (c : Cx0) : List Nat → List El → Prop
  | base : Pile c [0] []
  | push {b t : Nat} {st : List Nat} {es : List El} {X : Str} {u : List Str} {n : Nat} : Pile c (b :: st) es → goB c.rows b X = some t → Dvl c.rs [X] u n → Pile c (t :: b :: st) ((X, u, n) :: es)
variable {c : Cx0}
theorem Pile.len {S : List Nat} {es : List El} (p : Pile c S es) : S.length = es.length + 1 := by
  induction p with
  | base => rfl
  | push _ _ _ ih =>
    simp only [List.length_cons] at ih ⊢
    omega
theorem Pile.ker (t : Tc c) {s : Nat} {st : List Nat} {es : List El} (p : Pile c (s :: st) es) : ∃ k, c.ks[s]? = some k := by
  generalize hS : s :: st = S at p
  induction p generalizing s st with
  | base =>
    cases hS
    exact ⟨_, t.ok.tb.st0⟩
  | @push b t' st' es' X u n _ hg _ ih =>
    cases hS
    obtain ⟨kb, hb⟩ := ih rfl
    exact ⟨_, (t.ok.tb.go_inv hb hg).2⟩
theorem Pile.lt (t : Tc c) {S : List Nat} {es : List El} (p : Pile c S es) : ∀ s ∈ S, s < c.ks.length := by
  induction p with
  | base =>
    intro s hs
    rw [List.mem_singleton] at hs
    subst hs
    exact (List.getElem?_eq_some_iff.mp t.ok.tb.st0).1
  | @push b t' st' es' X u n p' hg hd ih =>
    intro s hs
    rcases List.mem_cons.mp hs with rfl | hs
    · obtain ⟨k, hk⟩ := Pile.ker t (.push p' hg hd)
      exact (List.getElem?_eq_some_iff.mp hk).1
    · exact ih s hs
theorem Pile.pop (t : Tc c) : ∀ (d : Nat) {s : Nat} {st : List Nat} {es : List El} {ker : Ker} {k : Nat}, Pile c (s :: st) es → c.ks[s]? = some ker → (k, d) ∈ closed c.fr ker → k < c.fr.length →
    ∃ b st' es1 es2 kb u n, (s :: st).drop d = b :: st' ∧ es = es1 ++ es2 ∧ es1.length = d ∧ Pile c (b :: st') es2 ∧ c.ks[b]? = some kb ∧ (k, 0) ∈ closed c.fr kb ∧ Dvl c.rs ((c.rgt k).take d) u n ∧ txE es1 = u ∧ wtE es1 = n
  | 0, s, st, es, ker, k, p, hk, hm, _ => ⟨s, st, [], es, ker, [], 0, rfl, rfl, rfl, p, hk, hm, by rw [List.take_zero]; exact .nil, rfl, rfl⟩
  | d + 1, s, st, es, ker, k, p, hk, hm, hkf => by
    have hker : (k, d + 1) ∈ ker := by
      rcases closed_src hm with h | ⟨h, _⟩
      · exact h
      · cases h
    cases p with
    | base =>
      rw [t.ok.tb.st0] at hk
      cases hk
      rw [List.mem_singleton] at hker
      cases hker
    | @push b _ st' es' X u n p' hg hd =>
      obtain ⟨kb, hb⟩ := Pile.ker t p'
      obtain ⟨_, hks⟩ := t.ok.tb.go_inv hb hg
      rw [hk] at hks
      cases hks
      obtain ⟨q, hq, hX, e⟩ := mem_kerTo.mp hker
      have e1 : q = (k, d) := by
        obtain ⟨a, b⟩ := q
        simp only [Prod.mk.injEq] at e
        rw [e.1, show d = b by omega]
      subst e1
      obtain ⟨b2, st2, es1, es2, kb2, u2, n2, h1, h2, h3, h4, h5, h6, h7, h8, h9⟩ := Pile.pop t d p' hb hq hkf
      have hat : (c.rgt k)[d]? = some X := hX
      refine ⟨b2, st2, (X, u, n) :: es1, es2, kb2, u2 ++ u, n2 + n, h1, by rw [h2]; rfl, by rw [List.length_cons, h3], h4, h5, h6, ?_, by rw [txE, h8], by
        rw [wtE_cons, h9]
        show n + n2 = n2 + n
        omega⟩
      rw [List.take_succ, hat]
      exact h7.app hd
theorem act_red (t : Tc c) {s k : Nat} {y : Str} (h : c.actR s y = some (.red k)) : k < c.rs.length ∧ Rc c (s, k, (c.rgt k).length, y) := by
  obtain ⟨⟨s', r, d, z⟩, h1, h2, h3⟩ := actR_inv t h
  have hl := h1.lt' t
  dsimp only at hl
  unfold actQ at h3
  unfold keyQ at h2
  dsimp only at h2 h3
  cases hx : (c.rgt r)[d]? with
  | none =>
    rw [hx] at h2 h3
    dsimp only at h2 h3
    cases h2
    have hd : d = (c.rgt r).length := by
      have := List.getElem?_eq_none_iff.mp hx
      omega
    split at h3
    · cases h3
    · rename_i hn
      have h3 := Option.some.inj h3
      cases h3
      refine ⟨by have := hl.1; rw [fr_len] at this; omega, ?_⟩
      rw [← hd]
      exact h1
  | some X =>
    rw [hx] at h3
    dsimp only at h3
    split at h3
    · cases h3
    · cases h3
theorem act_sh (t : Tc c) {s p : Nat} {y : Str} (h : c.actR s y = some (.sh p)) : sgB y = true ∧ goB c.rows s y = some p := by
  obtain ⟨⟨s', r, d, z⟩, h1, h2, h3⟩ := actR_inv t h
  unfold actQ at h3
  unfold keyQ at h2
  dsimp only at h2 h3
  cases hx : (c.rgt r)[d]? with
  | none =>
    rw [hx] at h3
    dsimp only at h3
    split at h3
    · cases h3
    · cases h3
  | some X =>
    rw [hx] at h2 h3
    dsimp only at h2 h3
    by_cases hs : sgB X = true
    · rw [if_pos hs] at h2 h3
      cases h2
      have h3 := Option.some.inj h3
      cases h3
      refine ⟨hs, ?_⟩
      obtain ⟨n, ker, g1, _⟩ := (h1.qv t.ok t.lw).go t.ok (X := y) hx
      dsimp only at g1
      rw [g1]
      rfl
    · rw [if_neg hs] at h3
      cases h3
def rdS (c : Cx0) (y : Str) : List Nat → Option (List Nat)
  | s :: st => match c.actR s y with
    | some (.red k) => (match (s :: st).drop (c.rgt k).length with
      | b :: st' => some (c.go b (ruA c.fr k).1 :: b :: st')
      | [] => none)
    | _ => none
  | [] => none
theorem rdS_stp {y : Str} {ys : List Str} {S S' : List Nat} (h : rdS c y S = some S') : stp c (S, y :: ys) = some (S', y :: ys) := by
  cases S with
  | nil => cases h
  | cons s st =>
    unfold rdS at h
    dsimp only at h
    show (match c.actR s y with
      | some (.sh p) => some (p :: s :: st, ys)
      | some (.red k) => (match (s :: st).drop (c.rgt k).length with
        | b :: st' => some (c.go b (ruA c.fr k).1 :: b :: st', y :: ys)
        | [] => none)
      | _ => none) = _
    cases ha : c.actR s y with
    | none => rw [ha] at h; cases h
    | some a =>
      rw [ha] at h
      cases a with
      | acc => cases h
      | sh p => cases h
      | red k =>
        dsimp only at h ⊢
        cases hd : (s :: st).drop (c.rgt k).length with
        | nil => rw [hd] at h; cases h
        | cons b st' => rw [hd] at h; cases h; rfl
theorem Pile.red (t : Tc c) {s : Nat} {st : List Nat} {es : List El} {y : Str} {k : Nat} (p : Pile c (s :: st) es) (h : c.actR s y = some (.red k)) :
    ∃ b st' es1 es2 u n, (s :: st).drop (c.rgt k).length = b :: st' ∧ es = es1 ++ es2 ∧ es1.length = (c.rgt k).length ∧ Pile c (c.go b (ruA c.fr k).1 :: b :: st') (((ruA c.fr k).1, u, n + 1) :: es2) ∧ txE es1 = u ∧ wtE es1 = n ∧ goB c.rows b (ruA c.fr k).1 = some (c.go b (ruA c.fr k).1) := by
  obtain ⟨hk, hr⟩ := act_red t h
  have hkf : k < c.fr.length := by rw [fr_len]; omega
  obtain ⟨ker, h1, h2, _⟩ := hr.qv t.ok t.lw
  obtain ⟨b, st', es1, es2, kb, u, n, g1, g2, g3, g4, g5, g6, g7, g8, g9⟩ := Pile.pop t (c.rgt k).length p h1 h2 hkf
  have ek : ruA c.fr k = ruA c.rs k := ru_rs hk
  rw [List.take_length] at g7
  have hrg : c.rgt k = (ruA c.rs k).2 := by unfold rgt; rw [ek]
  obtain ⟨q, hq, hX⟩ : ∃ q ∈ closed c.fr kb, symI c.fr q = some (ruA c.fr k).1 := by
    rcases closed_src g6 with hz | ⟨_, hz⟩
    · exfalso
      cases g4 with
      | base =>
        rw [t.ok.tb.st0] at g5
        cases g5
        rw [List.mem_singleton] at hz
        have e1 : k = c.fr.length - 1 := (Prod.mk.inj hz).1
        have e2 := fr_len (c := c)
        omega
      | @push b' _ st'' es' X u' n' p' hg hd =>
        obtain ⟨kb', hb'⟩ := Pile.ker t p'
        obtain ⟨_, hks⟩ := t.ok.tb.go_inv hb' hg
        rw [g5] at hks
        cases hks
        obtain ⟨q, _, _, e⟩ := mem_kerTo.mp hz
        have := (Prod.mk.inj e).2
        omega
    · exact hz
  obtain ⟨m, hm, _⟩ := t.ok.tb.go g5 hq hX
  have hgo : c.go b (ruA c.fr k).1 = m := by unfold go; rw [hm]; rfl
  refine ⟨b, st', es1, es2, u, n, g1, g2, g3, ?_, g8, g9, by rw [hgo]; exact hm⟩
  rw [hgo]
  refine .push g4 hm ?_
  have := Dvl.nm hk (by rw [← hrg]; exact g7) (Dvl.nil (fr := c.rs))
  rw [List.append_nil, Nat.add_zero, ← ek] at this
  exact this
end Cx0
end LW
namespace LW
open PySem L2 DL
theorem txE_nil : ∀ {es : List El}, (∀ e ∈ es, e.2.1 = []) → txE es = []
  | [], _ => rfl
  | e :: es, h => by rw [txE, txE_nil fun x hx => h x (.tail _ hx), h e List.mem_cons_self]; rfl
theorem txE_mem : ∀ {es : List El} {e : El}, e ∈ es → e.2.1.length ≤ (txE es).length
  | x :: es, e, h => by
    rw [txE, List.length_append]
    rcases List.mem_cons.mp h with rfl | h
    · omega
    · have := txE_mem h
      omega
theorem wtE_le {B : Nat} : ∀ {es : List El}, (∀ e ∈ es, e.2.2 ≤ B) → wtE es ≤ es.length * B
  | [], _ => by unfold wtE; simp
  | e :: es, h => by
    have h1 := h e List.mem_cons_self
    have h2 := wtE_le fun x hx => h x (.tail _ hx)
    rw [wtE_cons, List.length_cons, Nat.succ_mul]
    omega
namespace Cx0
variable {c : Cx0}
def rdN (c : Cx0) (y : Str) : Nat → List Nat → Option (List Nat)
  | 0, S => some S
  | n + 1, S => (rdS c y S).bind (rdN c y n)
theorem rdN_add (y : Str) (a b : Nat) (S : List Nat) : rdN c y (a + b) S = (rdN c y a S).bind (rdN c y b) := by
  induction a generalizing S with
  | zero => rw [Nat.zero_add]; rfl
  | succ a ih =>
    rw [Nat.succ_add]
    show (rdS c y S).bind (rdN c y (a + b)) = ((rdS c y S).bind (rdN c y a)).bind (rdN c y b)
    cases rdS c y S with
    | none => rfl
    | some T => exact ih T
theorem rdN_snoc {y : Str} {n : Nat} {S T U : List Nat} (h : rdN c y n S = some T) (k : rdS c y T = some U) : rdN c y (n + 1) S = some U := by
  rw [rdN_add, h]
  show (rdS c y T).bind (rdN c y 0) = some U
  rw [k]; rfl
theorem rdN_run {y : Str} {ys : List Str} : ∀ (n : Nat) {S T : List Nat}, rdN c y n S = some T → runN c n (S, y :: ys) = some (T, y :: ys)
  | 0, S, T, h => by cases h; rfl
  | n + 1, S, T, h => by
    have h : (rdS c y S).bind (rdN c y n) = some T := h
    cases hr : rdS c y S with
    | none => rw [hr] at h; cases h
    | some U =>
      rw [hr] at h
      show (stp c (S, y :: ys)).bind (runN c n) = _
      rw [rdS_stp hr]
      exact rdN_run n h
theorem rdS_inv {y : Str} {S T : List Nat} (h : rdS c y S = some T) : ∃ s st k b st', S = s :: st ∧ c.actR s y = some (.red k) ∧ S.drop (c.rgt k).length = b :: st' ∧ T = c.go b (ruA c.fr k).1 :: b :: st' := by
  cases S with
  | nil => cases h
  | cons s st =>
    unfold rdS at h
    dsimp only at h
    cases ha : c.actR s y with
    | none => rw [ha] at h; cases h
    | some a =>
      rw [ha] at h
      cases a with
      | acc => cases h
      | sh p => cases h
      | red k =>
        dsimp only at h
        cases hd : (s :: st).drop (c.rgt k).length with
        | nil => rw [hd] at h; cases h
        | cons b st' => rw [hd] at h; cases h; exact ⟨s, st, k, b, st', rfl, ha, hd, rfl⟩
theorem rdS_of {y : Str} {s : Nat} {st : List Nat} {k b : Nat} {st' : List Nat} (ha : c.actR s y = some (.red k)) (hd : (s :: st).drop (c.rgt k).length = b :: st') : rdS c y (s :: st) = some (c.go b (ruA c.fr k).1 :: b :: st') := by
  unfold rdS
  dsimp only
  rw [ha]
  dsimp only
  rw [hd]
def UpP (c : Cx0) (y : Str) (b : Nat) (Q : List Nat) : Prop := ∀ st, ∃ k, 0 < k ∧ rdN c y k (b :: st) = some (Q ++ b :: st)
def Ch (c : Cx0) (y : Str) (L : List Nat) : Prop := ∀ (A : List Nat) (x : Nat) (M : List Nat) (b : Nat) (B : List Nat), L = A ++ x :: (M ++ b :: B) → UpP c y b (x :: M)
theorem no_loop (t : Tc c) (one : NoC c) {y : Str} {x : Nat} {M : List Nat} (h : UpP c y x (x :: M)) : False := by
  obtain ⟨k1, hk1, h1⟩ := h []
  obtain ⟨k0, hk0⟩ : ∃ k0, c.actR x y = some (.red k0) := by
    obtain ⟨n, rfl⟩ : ∃ n, k1 = n + 1 := ⟨k1 - 1, by omega⟩
    have h1 : (rdS c y [x]).bind (rdN c y n) = _ := h1
    cases hr : rdS c y [x] with
    | none => rw [hr] at h1; cases h1
    | some T =>
      obtain ⟨s, st, k, b, st', e, ha, _⟩ := rdS_inv hr
      cases e
      exact ⟨k, ha⟩
  obtain ⟨_, hq⟩ := act_red t hk0
  obtain ⟨st0, rest, m, hl⟩ := hq.live t one
  dsimp only at hl
  rw [List.drop_of_length_le (Nat.le_refl _)] at hl
  have claim : ∀ j, ∃ n, j ≤ n ∧ ∃ st, rdN c y n (x :: st0) = some (x :: st) := by
    intro j
    induction j with
    | zero => exact ⟨0, Nat.le_refl _, st0, rfl⟩
    | succ j ih =>
      obtain ⟨n, hn, st, hr⟩ := ih
      obtain ⟨k, hk, hh⟩ := h st
      refine ⟨n + k, by omega, M ++ x :: st, ?_⟩
      rw [rdN_add, hr]
      exact hh
  obtain ⟨n, hn, st, hr⟩ := claim (m + 1)
  have := (Ends.from hl (rdN_run (ys := rest) n hr)).1
  omega
theorem ch_nodup (t : Tc c) (one : NoC c) {y : Str} : ∀ {L : List Nat}, Ch c y L → L.Nodup
  | [], _ => List.nodup_nil
  | x :: L, h => by
    refine List.nodup_cons.mpr ⟨fun hx => ?_, ch_nodup t one fun A z M b B e => h (x :: A) z M b B (by rw [e]; rfl)⟩
    obtain ⟨M, B, rfl⟩ := List.append_of_mem hx
    exact no_loop t one (h [] x M x B rfl)
theorem up_step {y : Str} {b s k b2 : Nat} {Q : List Nat} (h : Q = [] ∨ UpP c y b Q) (hs : (Q ++ [b]).head? = some s) (ha : c.actR s y = some (.red k)) (hd : (c.rgt k).length ≤ Q.length) (h2 : (Q.drop (c.rgt k).length ++ [b]).head? = some b2) :
    UpP c y b (c.go b2 (ruA c.fr k).1 :: Q.drop (c.rgt k).length) := by
  intro st
  obtain ⟨n, hn⟩ : ∃ n, rdN c y n (b :: st) = some (Q ++ b :: st) := by
    rcases h with rfl | h
    · exact ⟨0, rfl⟩
    · obtain ⟨n, _, hn⟩ := h st
      exact ⟨n, hn⟩
  obtain ⟨s0, st0, e0⟩ : ∃ s0 st0, Q ++ b :: st = s0 :: st0 := by
    cases Q with
    | nil => exact ⟨b, st, rfl⟩
    | cons a q => exact ⟨a, q ++ b :: st, rfl⟩
  have es : s0 = s := by
    cases Q with
    | nil => cases e0; simpa using hs
    | cons a q => cases e0; simpa using hs
  subst es
  have hdr : (s0 :: st0).drop (c.rgt k).length = Q.drop (c.rgt k).length ++ b :: st := by
    rw [← e0, List.drop_append_of_le_length hd]
  obtain ⟨tl, e2⟩ : ∃ tl, Q.drop (c.rgt k).length ++ b :: st = b2 :: tl := by
    cases hq : Q.drop (c.rgt k).length with
    | nil => rw [hq] at h2; simp at h2; exact ⟨st, by rw [h2]; rfl⟩
    | cons a q => rw [hq] at h2; simp at h2; exact ⟨q ++ b :: st, by rw [h2]; rfl⟩
  refine ⟨n + 1, by omega, ?_⟩
  rw [e0] at hn
  rw [rdN_snoc hn (rdS_of ha (hdr.trans e2)), ← e2]
  rfl
structure RI (c : Cx0) (y : Str) (es0 : List El) (j : Nat) (L R : List Nat) (esL esR : List El) : Prop where
  pile : Pile c (L ++ R) (esL ++ esR)
  ne : L ≠ []
  ch : Ch c y L
  suf : ∃ pre, es0 = pre ++ esR
  e1 : esL.length ≤ L.length
  e2 : L.length ≤ esL.length + 1
  eps : ∀ e ∈ esL.take (L.length - 1), e.2.1 = []
  wt : wtE (esL ++ esR) = wtE es0 + j
  tx : txE (esL ++ esR) = txE es0
theorem RI.start {y : Str} {s : Nat} {st : List Nat} {es : List El} (p : Pile c (s :: st) es) : RI c y es 0 [s] st [] es :=
  ⟨p, by simp, fun A x M b B e => by
    have := congrArg List.length e
    simp at this
    omega, ⟨[], rfl⟩, by simp, by simp, fun e he => by simp at he, rfl, rfl⟩
theorem RI.step (t : Tc c) {y : Str} {es0 : List El} {j : Nat} {L R : List Nat} {esL esR : List El} (i : RI c y es0 j L R esL esR) {S' : List Nat} (h : rdS c y (L ++ R) = some S') : ∃ L' R' esL' esR', S' = L' ++ R' ∧ RI c y es0 (j + 1) L' R' esL' esR' ∧ (esR' = esR ∨ esL'.length = 1) := by
  obtain ⟨pile, ne, ch, ⟨pre, suf⟩, l1, l2, eps, wt, tx⟩ := i
  obtain ⟨s, L0, rfl⟩ : ∃ s L0, L = s :: L0 := by
    cases L with
    | nil => exact absurd rfl ne
    | cons a l => exact ⟨a, l, rfl⟩
  obtain ⟨s', st, k, b, st', e, ha, hd, rfl⟩ := rdS_inv h
  rw [List.cons_append] at e
  cases e
  obtain ⟨b', st'', es1, es2, u, n, g1, g2, g3, g4, g5, g6, g7⟩ := Pile.red t pile ha
  have g1 : (s :: L0 ++ R).drop (c.rgt k).length = b' :: st'' := g1
  rw [hd] at g1
  cases g1
  have hwt : wtE (((ruA c.fr k).1, u, n + 1) :: es2) = wtE es0 + (j + 1) := by
    rw [g2, wtE_app, g6] at wt
    rw [wtE_cons]
    show n + 1 + wtE es2 = _
    omega
  have htx : txE (((ruA c.fr k).1, u, n + 1) :: es2) = txE es0 := by
    rw [g2, txE_app, g5] at tx
    exact tx
  by_cases hc : (c.rgt k).length < (s :: L0).length
  · have hdL : (s :: L0 ++ R).drop (c.rgt k).length = (s :: L0).drop (c.rgt k).length ++ R := List.drop_append_of_le_length (by omega)
    rw [hdL] at hd
    have hle : (c.rgt k).length ≤ esL.length := by omega
    have he1 : es1 = esL.take (c.rgt k).length := by
      have := congrArg (List.take (c.rgt k).length) g2
      rw [List.take_append_of_le_length hle, ← g3, List.take_left] at this
      rw [← g3]; exact this.symm
    have he2 : es2 = esL.drop (c.rgt k).length ++ esR := by
      have := congrArg (List.drop (c.rgt k).length) g2
      rw [List.drop_append_of_le_length hle, ← g3, List.drop_left] at this
      rw [← g3]; exact this.symm
    have hu : u = [] := by
      rw [← g5, he1]
      refine txE_nil fun e he => eps e ?_
      have : esL.take (c.rgt k).length = (esL.take ((s :: L0).length - 1)).take (c.rgt k).length := by
        rw [List.take_take, Nat.min_eq_left (by omega)]
      rw [this] at he
      exact List.mem_of_mem_take he
    have hdn : (s :: L0).drop (c.rgt k).length ≠ [] := fun z => by
      have := congrArg List.length z
      rw [List.length_drop, List.length_nil] at this
      omega
    obtain ⟨b1, L2, eL⟩ : ∃ b1 L2, (s :: L0).drop (c.rgt k).length = b1 :: L2 := by
      cases hz : (s :: L0).drop (c.rgt k).length with
      | nil => exact absurd hz hdn
      | cons a l => exact ⟨a, l, rfl⟩
    have eb : b1 = b := by rw [eL] at hd; exact (List.cons.inj hd).1
    subst eb
    have hlen : ((s :: L0).drop (c.rgt k).length).length = (s :: L0).length - (c.rgt k).length := List.length_drop
    refine ⟨c.go b1 (ruA c.fr k).1 :: (s :: L0).drop (c.rgt k).length, R, ((ruA c.fr k).1, u, n + 1) :: esL.drop (c.rgt k).length, esR, by rw [List.cons_append, hd], ⟨?_, by simp, ?_, ⟨pre, suf⟩, ?_, ?_, ?_, ?_, ?_⟩, .inl rfl⟩
    · rw [List.cons_append, List.cons_append, hd, ← he2]
      exact g4
    · intro A x M b2 B e
      cases A with
      | nil =>
        rw [List.nil_append] at e
        have ex : c.go b1 (ruA c.fr k).1 = x := (List.cons.inj e).1
        have et : (s :: L0).drop (c.rgt k).length = M ++ b2 :: B := (List.cons.inj e).2
        subst ex
        -- all above b2
        have hsp : s :: L0 = ((s :: L0).take (c.rgt k).length ++ M) ++ b2 :: B := by
          rw [List.append_assoc, ← et, List.take_append_drop]
        generalize hQ : (s :: L0).take (c.rgt k).length ++ M = Q at hsp
        have hQl : ((s :: L0).take (c.rgt k).length).length = (c.rgt k).length := by rw [List.length_take]; omega
        have hQd : Q.drop (c.rgt k).length = M := by
          rw [← hQ]
          have := List.drop_left (l₁ := (s :: L0).take (c.rgt k).length) (l₂ := M)
          rwa [hQl] at this
        have hup : Q = [] ∨ UpP c y b2 Q := by
          cases Q with
          | nil => exact .inl rfl
          | cons a q => exact .inr (ch [] a q b2 B (by rw [hsp]; rfl))
        have hst := up_step (b2 := b1) hup (s := s) (by
          cases Q with
          | nil => rw [List.nil_append] at hsp; rw [← (List.cons.inj hsp).1]; rfl
          | cons a q => rw [List.cons_append] at hsp; rw [← (List.cons.inj hsp).1]; rfl) ha (by rw [← hQ, List.length_append, hQl]; omega) (by
          rw [hQd]
          cases M with
          | nil => rw [eL, List.nil_append] at et; rw [← (List.cons.inj et).1]; rfl
          | cons a q => rw [eL, List.cons_append] at et; rw [← (List.cons.inj et).1]; rfl)
        rw [hQd] at hst
        exact hst
      | cons a A =>
        rw [List.cons_append] at e
        have et := (List.cons.inj e).2
        refine ch ((s :: L0).take (c.rgt k).length ++ A) x M b2 B ?_
        rw [List.append_assoc, ← et, List.take_append_drop]
    · simp only [List.length_cons, List.length_drop] at l1 hc hlen ⊢
      omega
    · simp only [List.length_cons, List.length_drop] at l2 hc hlen ⊢
      omega
    · intro e he
      have hL' : (c.go b1 (ruA c.fr k).1 :: (s :: L0).drop (c.rgt k).length).length - 1 = ((s :: L0).length - (c.rgt k).length - 1) + 1 := by
        rw [List.length_cons, hlen]; omega
      rw [hL', List.take_succ_cons] at he
      rcases List.mem_cons.mp he with rfl | he
      · exact hu
      · refine eps e ?_
        have : (esL.drop (c.rgt k).length).take ((s :: L0).length - (c.rgt k).length - 1) = (esL.take ((s :: L0).length - 1)).drop (c.rgt k).length := by
          rw [List.drop_take]
          congr 1
          omega
        rw [this] at he
        exact List.mem_of_mem_drop he
    · rw [List.cons_append, ← he2]; exact hwt
    · rw [List.cons_append, ← he2]; exact htx
  · refine ⟨[c.go b (ruA c.fr k).1], b :: st', [((ruA c.fr k).1, u, n + 1)], es2, rfl, ⟨g4, by simp, ?_, ?_, by simp, by simp, fun e he => by simp at he, hwt, htx⟩, .inr rfl⟩
    · intro A x M b2 B e
      have := congrArg List.length e
      simp at this
      omega
    · have hle : esL.length ≤ es1.length := by omega
      have hs2 : esR = es1.drop esL.length ++ es2 := by
        have := congrArg (List.drop esL.length) g2
        rw [List.drop_left, List.drop_append_of_le_length hle] at this
        exact this
      exact ⟨pre ++ es1.drop esL.length, by rw [suf, hs2, List.append_assoc]⟩
theorem RI.run (t : Tc c) {y : Str} {s : Nat} {st : List Nat} {es : List El} (p : Pile c (s :: st) es) : ∀ (j : Nat) {S' : List Nat}, rdN c y j (s :: st) = some S' → ∃ L R esL esR, S' = L ++ R ∧ RI c y es j L R esL esR
  | 0, S', h => by cases h; exact ⟨[s], st, [], es, rfl, RI.start p⟩
  | j + 1, S', h => by
    rw [rdN_add] at h
    cases hr : rdN c y j (s :: st) with
    | none => rw [hr] at h; cases h
    | some T =>
      rw [hr] at h
      obtain ⟨L, R, esL, esR, rfl, i⟩ := RI.run t p j hr
      have h : (rdS c y (L ++ R)).bind (rdN c y 0) = some S' := h
      cases hs : rdS c y (L ++ R) with
      | none => rw [hs] at h; cases h
      | some U =>
        rw [hs] at h
        cases h
        obtain ⟨L', R', esL', esR', h1, h2, _⟩ := i.step t hs
        exact ⟨L', R', esL', esR', h1, h2⟩
theorem Pile.els (t : Tc c) (one : NoC c) {S : List Nat} {es : List El} (p : Pile c S es) : ∀ e ∈ es, e.2.2 ≤ 1365 + 49152 * e.2.1.length := by
  obtain ⟨NL, o⟩ := uq_of t one
  induction p with
  | base => intro e he; cases he
  | push _ _ hd ih =>
    intro e he
    rcases List.mem_cons.mp he with rfl | he
    · exact key_all o hd
    · exact ih e he
theorem red_bd (t : Tc c) (one : NoC c) {s : Nat} {st : List Nat} {es : List El} (p : Pile c (s :: st) es) (hT : (txE es).length ≤ 18) {y : Str} {j : Nat} {S' : List Nat} (h : rdN c y j (s :: st) = some S') : j ≤ 939336 := by
  obtain ⟨L, R, esL, esR, rfl, i⟩ := RI.run t p j h
  have hnd := ch_nodup t one i.ch
  have h40 := t.ok.tb.n40
  have hL : L.length ≤ 40 := by
    have := nodup_len hnd (m := List.range c.ks.length) fun x hx => List.mem_range.mpr (i.pile.lt t x (List.mem_append_left _ hx))
    rw [List.length_range] at this
    omega
  have hels := i.pile.els t one
  obtain ⟨pre, suf⟩ := i.suf
  have hj : j ≤ wtE esL := by
    have h1 := i.wt
    rw [suf, wtE_app, wtE_app] at h1
    omega
  have hsp : wtE esL = wtE (esL.take (L.length - 1)) + wtE (esL.drop (L.length - 1)) := by rw [← wtE_app, List.take_append_drop]
  have h1 : wtE (esL.take (L.length - 1)) ≤ (esL.take (L.length - 1)).length * 1365 := wtE_le fun e he => by
    have h2 := i.eps e he
    have h3 := hels e (List.mem_append_left _ (List.mem_of_mem_take he))
    rw [h2] at h3
    simpa using h3
  have h2 : wtE (esL.drop (L.length - 1)) ≤ (esL.drop (L.length - 1)).length * (1365 + 49152 * 18) := wtE_le fun e he => by
    have hm : e ∈ esL ++ esR := List.mem_append_left _ (List.mem_of_mem_drop he)
    have h3 := hels e hm
    have h4 := txE_mem hm
    rw [i.tx] at h4
    have : 49152 * e.2.1.length ≤ 49152 * 18 := Nat.mul_le_mul_left _ (by omega)
    omega
  have l1 := i.e1
  have l2 := i.e2
  have hne := List.length_pos_iff.mpr i.ne
  have hd1 : (esL.drop (L.length - 1)).length ≤ 1 := by rw [List.length_drop]; omega
  have ht1 : (esL.take (L.length - 1)).length ≤ 39 := by rw [List.length_take]; omega
  have k1 : (esL.take (L.length - 1)).length * 1365 ≤ 39 * 1365 := Nat.mul_le_mul_right _ ht1
  have k2 : (esL.drop (L.length - 1)).length * (1365 + 49152 * 18) ≤ 1 * (1365 + 49152 * 18) := Nat.mul_le_mul_right _ hd1
  omega
theorem Pile.rdN (t : Tc c) {y : Str} {s : Nat} {st : List Nat} {es : List El} (p : Pile c (s :: st) es) {j : Nat} {S' : List Nat} (h : Cx0.rdN c y j (s :: st) = some S') : ∃ es', Pile c S' es' ∧ txE es' = txE es := by
  obtain ⟨L, R, esL, esR, rfl, i⟩ := RI.run t p j h
  exact ⟨_, i.pile, i.tx⟩
theorem phase (t : Tc c) (one : NoC c) {s : Nat} {st : List Nat} {es : List El} (p : Pile c (s :: st) es) (hT : (txE es).length ≤ 18) (y : Str) : ∃ j s' st' es', j ≤ 939336 ∧ Cx0.rdN c y j (s :: st) = some (s' :: st') ∧ rdS c y (s' :: st') = none ∧ Pile c (s' :: st') es' ∧ txE es' = txE es := by
  have key : ∀ n, (∃ S', Cx0.rdN c y n (s :: st) = some S') ∨ ∃ j, j < n ∧ ∃ S', Cx0.rdN c y j (s :: st) = some S' ∧ rdS c y S' = none := by
    intro n
    induction n with
    | zero => exact .inl ⟨_, rfl⟩
    | succ n ih =>
      rcases ih with ⟨S', h⟩ | ⟨j, h1, h2⟩
      · cases hs : rdS c y S' with
        | none => exact .inr ⟨n, Nat.lt_succ_self n, S', h, hs⟩
        | some U => exact .inl ⟨U, rdN_snoc h hs⟩
      · exact .inr ⟨j, by omega, h2⟩
  rcases key 939337 with ⟨S', h⟩ | ⟨j, h1, S', h2, h3⟩
  · have := red_bd t one p hT h
    omega
  · obtain ⟨es', h4, h5⟩ := Pile.rdN t p h2
    cases S' with
    | nil => have := h4.len; simp at this
    | cons s' st' => exact ⟨j, s', st', es', by omega, h2, h3, h4, h5⟩
end Cx0
end LW
namespace LW
open PySem L2 DL
theorem cl_up {fr : List Rl} {ker : Ker} {i j : Nat} (h : i ≤ j) {x : It} (hx : x ∈ cl fr ker i) : x ∈ cl fr ker j := by
  induction j with
  | zero => rw [Nat.le_zero.mp h] at hx; exact hx
  | succ j ih =>
    rcases Nat.eq_or_lt_of_le h with e | e
    · rw [← e]; exact hx
    · obtain ⟨t, ht⟩ := cl_mono (fr := fr) (ker := ker) (i := j)
      rw [ht]
      exact List.mem_append_left _ (ih (Nat.le_of_lt_succ e))
theorem cl_src2 {fr : List Rl} {ker : Ker} {i : Nat} {x : It} (hx : x ∈ cl fr ker (i + 1)) : x ∈ cl fr ker i ∨ (x.2 = 0 ∧ ∃ p ∈ cl fr ker i, symI fr p = some (ruA fr x.1).1) := by
  have hx' : x ∈ (match (cl fr ker i)[i]? with
    | some it => cloN fr (symI fr it) (cl fr ker i) fr.length
    | none => cl fr ker i) := hx
  cases hi : (cl fr ker i)[i]? with
  | none => rw [hi] at hx'; exact .inl hx'
  | some it =>
    rw [hi] at hx'
    rcases cloN_inv _ hx' with h | ⟨k, _, rfl, h2⟩
    · exact .inl h
    · exact .inr ⟨rfl, it, List.mem_of_getElem? hi, h2⟩
namespace Cx0
variable {c : Cx0}
theorem der_up {q w : List Str} (h : DerS c.rs q w) : DerS c.fr q w := by
  induction h with
  | nil => exact .nil
  | sg hs _ ih => exact .sg hs ih
  | @nm k q u v hk _ _ ih1 ih2 =>
    have ek : ruA c.fr k = ruA c.rs k := ru_rs hk
    have := DerS.nm (fr := c.fr) (k := k) (q := q) (u := u) (v := v) (by rw [fr_len]; omega) (by rw [ek]; exact ih1) ih2
    rwa [ek] at this
theorem der_down (t : Tc c) {q w : List Str} (h : DerS c.fr q w) : (∀ x ∈ q, x ≠ "") → DerS c.rs q w := by
  induction h with
  | nil => intro _; exact .nil
  | sg hs _ ih => intro hq; exact .sg hs (ih fun x hx => hq x (.tail _ hx))
  | @nm k q u v hk _ _ ih1 ih2 =>
    intro hq
    have hk2 : k < c.rs.length := by
      by_cases hz : k < c.rs.length
      · exact hz
      · exfalso
        have : k = c.rs.length := by rw [fr_len] at hk; omega
        refine hq _ List.mem_cons_self ?_
        rw [this, ru_last]
    have ek : ruA c.fr k = ruA c.rs k := ru_rs hk2
    rw [ek] at ih1 ⊢
    refine .nm hk2 (ih1 fun x hx => ?_) (ih2 fun x hx => hq x (.tail _ hx))
    have hx2 : x ∈ c.rgt k := by unfold rgt; rw [ek]; exact hx
    intro e
    have := (rgt_ok t.ok hk x hx2).2
    rw [e] at this
    exact not_sym_nil this
theorem rgt_ne (t : Tc c) {r : Nat} (hr : r < c.fr.length) : ∀ x ∈ c.rgt r, x ≠ "" := fun x hx e => by
  have := (rgt_ok t.ok hr x hx).2
  rw [e] at this
  exact not_sym_nil this
theorem pop_der {q u : List Str} {n : Nat} (h : Dvl c.rs q u n) (hs : ∀ x ∈ u, sgB x = true) : DerS c.fr q u := der_up (h.dvs hs).der
theorem Pile.act (t : Tc c) : ∀ (m : Nat) {b : Nat} {st : List Nat} {es : List El} {ker : Ker}, es.length = m → Pile c (b :: st) es → c.ks[b]? = some ker → (∀ x ∈ txE es, sgB x = true) →
    ∀ i, i ≤ ker.length + c.fr.length → ∀ k, (k, 0) ∈ cl c.fr ker i → k < c.fr.length → Act c.fr (txE es) k
  | m, b, st, es, ker, hm, p, hk, hsg, i => by
    induction i with
    | zero =>
      intro _ k hx _
      have hx : (k, 0) ∈ ker := hx
      cases p with
      | base =>
        rw [t.ok.tb.st0] at hk
        cases hk
        rw [List.mem_singleton] at hx
        have e1 : k = c.fr.length - 1 := (Prod.mk.inj hx).1
        rw [e1]
        exact .st
      | @push b' _ st' es' X u n p' hg hd =>
        exfalso
        obtain ⟨kb, hb⟩ := Pile.ker t p'
        obtain ⟨_, hks⟩ := t.ok.tb.go_inv hb hg
        rw [hk] at hks
        cases hks
        obtain ⟨q, _, _, e⟩ := mem_kerTo.mp hx
        have := (Prod.mk.inj e).2
        omega
    | succ i ih =>
      intro hi k hx hkf
      rcases cl_src2 hx with h | ⟨_, ⟨r, d⟩, hp, hX⟩
      · exact ih (by omega) k h hkf
      · have hX : symI c.fr (r, d) = some (ruA c.fr k).1 := hX
        have hlt : d < (ruA c.fr r).2.length := (List.getElem?_eq_some_iff.mp hX).1
        have hrf : r < c.fr.length := by
          by_cases hz : r < c.fr.length
          · exact hz
          · exfalso
            have : ruA c.fr r = default := by
              unfold ruA
              rw [List.getD_eq_getElem?_getD, List.getElem?_eq_none (by omega)]
              rfl
            rw [this] at hlt
            exact absurd hlt (Nat.not_lt_zero _)
        have hc : (r, d) ∈ closed c.fr ker := cl_up (by omega) hp
        cases d with
        | zero =>
          have h1 := ih (by omega) r hp hrf
          have := Act.go (v := []) h1 (by rw [List.take_zero]; exact .nil) hX hkf
          rwa [List.append_nil] at this
        | succ d =>
          obtain ⟨b2, st2, es1, es2, kb2, u, n, h1, h2, h3, h4, h5, h6, h7, h8, h9⟩ := Pile.pop t (d + 1) p hk hc hrf
          have hl : es2.length < m := by rw [← hm, h2, List.length_append]; omega
          have htx : txE es = txE es2 ++ u := by rw [h2, txE_app, h8]
          have hs2 : ∀ x ∈ txE es2, sgB x = true := fun x hx => hsg x (by rw [htx]; exact List.mem_append_left _ hx)
          have hsu : ∀ x ∈ u, sgB x = true := fun x hx => hsg x (by rw [htx]; exact List.mem_append_right _ hx)
          have a := Pile.act t es2.length rfl h4 h5 hs2 _ (Nat.le_refl _) r h6 hrf
          rw [htx]
          exact .go a (pop_der h7 hsu) hX hkf
termination_by m => m
theorem act_run (t : Tc c) (one : NoC c) {v : List Str} {k : Nat} (h : Act c.fr v k) : ∀ {y : Str}, Fst c.rs (c.rgt k) y → ∀ ys, ∃ s st n z, runN c n ([0], v ++ y :: ys) = some (s :: st, y :: ys) ∧ Rc c (s, k, 0, z) := by
  induction h with
  | st =>
    intro y _ ys
    refine ⟨0, [], 0, ("$" : Str), rfl, ?_⟩
    rw [show c.fr.length - 1 = c.rs.length by rw [fr_len]; omega]
    exact .st
  | @go u v r d k ha hv hX hk ih =>
    intro y hy ys
    have hX' : (c.rgt r)[d]? = some (ruA c.fr k).1 := hX
    have hlt : d < (c.rgt r).length := (List.getElem?_eq_some_iff.mp hX').1
    have hrf : r < c.fr.length := by
      by_cases hz : r < c.fr.length
      · exact hz
      · exfalso
        have : ruA c.fr r = default := by
          unfold ruA
          rw [List.getD_eq_getElem?_getD, List.getElem?_eq_none (by omega)]
          rfl
        unfold rgt at hlt
        rw [this] at hlt
        exact absurd hlt (Nat.not_lt_zero _)
    have hkn : k < c.rs.length := by
      by_cases hz : k < c.rs.length
      · exact hz
      · exfalso
        have e : k = c.rs.length := by rw [fr_len] at hk; omega
        rw [e, ru_last] at hX'
        exact rgt_ne t hrf _ (List.mem_of_getElem? hX') rfl
    have ek : ruA c.fr k = ruA c.rs k := ru_rs hkn
    have hdr : (c.rgt r).drop d = (ruA c.fr k).1 :: (c.rgt r).drop (d + 1) := drop_cons hX'
    obtain ⟨m, hvd⟩ := (der_down t hv fun x hx => rgt_ne t hrf x (List.mem_of_mem_take hx)).dvs
    have hF : Fst c.rs ((c.rgt r).drop d) y := by
      rw [hdr, ek]
      refine .nm hkn ?_
      have : c.rgt k = (ruA c.rs k).2 := by unfold rgt; rw [ek]
      rw [← this]; exact hy
    have hsp : c.rgt r = (ruA c.fr r).2.take d ++ (c.rgt r).drop d := (List.take_append_drop d (c.rgt r)).symm
    obtain ⟨y0, ys0, e0, hF0⟩ : ∃ y0 ys0, v ++ y :: ys = y0 :: ys0 ∧ Fst c.rs (c.rgt r) y0 := by
      cases v with
      | nil =>
        refine ⟨y, ys, rfl, ?_⟩
        rw [hsp]
        exact Fst.skip hvd.der hF
      | cons a v =>
        refine ⟨a, v ++ y :: ys, rfl, ?_⟩
        rw [hsp]
        exact (hvd.fst rfl).app _
    obtain ⟨s, st, n, z, h1, h2⟩ := ih hF0 ys0
    rw [← e0] at h1
    have h3 := follow t one hvd (q2 := (c.rgt r).drop d) (y := y) (ys := ys) st h2 (by rw [List.drop_zero]; exact hsp) (.inl hF)
    obtain ⟨t1, st1, p1, h4⟩ := Rc.along ((ruA c.fr r).2.take d) (q2 := (c.rgt r).drop d) st h2 (by rw [List.drop_zero]; exact hsp)
    have hl : ((ruA c.fr r).2.take d).length = d := by
      rw [List.length_take]
      have : d < (ruA c.fr r).2.length := hlt
      omega
    rw [hl, Nat.zero_add] at h4
    obtain ⟨y2, hy2⟩ := beh_ex t h4
    refine ⟨t1, st1, n + (m + v.length), y2, ?_, .cl h4 hX' hk rfl hy2⟩
    rw [List.append_assoc]
    have := runN_trans h1 h3
    rwa [p1] at this
theorem stp_le {x y : Cf} (h : stp c x = some y) : y.2.length ≤ x.2.length := by
  unfold stp at h
  split at h
  · rename_i s st a ys
    split at h
    · cases h; simp
    · split at h
      · cases h; simp
      · cases h
    · cases h
  · cases h
theorem runN_le : ∀ (n : Nat) {x y : Cf}, runN c n x = some y → y.2.length ≤ x.2.length
  | 0, x, y, h => by cases h; exact Nat.le_refl _
  | n + 1, x, y, h => by
    have h : (stp c x).bind (runN c n) = some y := h
    cases hs : stp c x with
    | none => rw [hs] at h; cases h
    | some z =>
      rw [hs] at h
      exact Nat.le_trans (runN_le n h) (stp_le hs)
def finS (c : Cx0) (y : Str) (T : List Nat) : Option (List Nat) := match T with
  | s :: st => match c.actR s y with
    | some .acc => some (s :: st)
    | some (.sh p) => some (p :: s :: st)
    | _ => none
  | [] => none
def fdN (c : Cx0) (y : Str) : Nat → List Nat → Option (List Nat)
  | 0, _ => none
  | n + 1, S => match rdS c y S with
    | some T => fdN c y n T
    | none => finS c y S
def feedR (c : Cx0) (y : Str) (S : List Nat) : Option (List Nat) := fdN c y 1000000 S
theorem fdN_end {y : Str} : ∀ (j m : Nat) {S T : List Nat}, rdN c y j S = some T → rdS c y T = none → j < m → fdN c y m S = finS c y T
  | 0, m + 1, S, T, h, h2, _ => by
    cases h
    show (match rdS c y S with
      | some T => fdN c y m T
      | none => finS c y S) = _
    rw [h2]
  | j + 1, m + 1, S, T, h, h2, hm => by
    have h : (rdS c y S).bind (rdN c y j) = some T := h
    show (match rdS c y S with
      | some T => fdN c y m T
      | none => finS c y S) = _
    cases hs : rdS c y S with
    | none => rw [hs] at h; cases h
    | some U =>
      rw [hs] at h
      exact fdN_end j m h h2 (by omega)
structure Took (c : Cx0) (w : List Str) (S : List Nat) : Prop where
  sg : ∀ x ∈ w, sgB x = true
  pl : ∃ es, Pile c S es ∧ txE es = w
  rn : ∃ n, ∀ rest, runN c n ([0], w ++ rest) = some (S, rest)
  ln : S.length ≤ 41 * w.length + 1
theorem red_len (t : Tc c) (one : NoC c) {s : Nat} {st : List Nat} {es : List El} (p : Pile c (s :: st) es) {y : Str} {j : Nat} {S' : List Nat} (h : rdN c y j (s :: st) = some S') : S'.length ≤ (s :: st).length + 40 := by
  obtain ⟨L, R, esL, esR, rfl, i⟩ := RI.run t p j h
  have hnd := ch_nodup t one i.ch
  have h40 := t.ok.tb.n40
  have hL : L.length ≤ 40 := by
    have := nodup_len hnd (m := List.range c.ks.length) fun x hx => List.mem_range.mpr (i.pile.lt t x (List.mem_append_left _ hx))
    rw [List.length_range] at this
    omega
  obtain ⟨pre, suf⟩ := i.suf
  have k1 := i.pile.len
  have k2 := p.len
  have k3 := congrArg List.length suf
  have k4 := i.e1
  simp only [List.length_append] at k1 k3 ⊢
  omega
theorem Took.nil : Took c [] [0] := ⟨by simp, ⟨[], .base, rfl⟩, ⟨0, fun rest => rfl⟩, by simp⟩
theorem Took.ne {w : List Str} {S : List Nat} (k : Took c w S) : ∃ s st, S = s :: st := by
  obtain ⟨es, p, _⟩ := k.pl
  cases p with
  | base => exact ⟨_, _, rfl⟩
  | push _ _ _ => exact ⟨_, _, rfl⟩
theorem Took.feed (t : Tc c) (one : NoC c) {w : List Str} {S : List Nat} (k : Took c w S) (hl : w.length ≤ 18) (y : Str) : ∃ j s st es, j < 1000000 ∧ rdN c y j S = some (s :: st) ∧ rdS c y (s :: st) = none ∧ Pile c (s :: st) es ∧ txE es = w ∧ feedR c y S = finS c y (s :: st) := by
  obtain ⟨s0, st0, rfl⟩ := k.ne
  obtain ⟨es0, p, e⟩ := k.pl
  obtain ⟨j, s, st, es, h1, h2, h3, h4, h5⟩ := phase t one p (by rw [e]; exact hl) y
  exact ⟨j, s, st, es, by omega, h2, h3, h4, by rw [h5, e], fdN_end j _ h2 h3 (by omega)⟩
theorem finS_sh {y : Str} {s : Nat} {st : List Nat} {T : List Nat} (h : finS c y (s :: st) = some T) : (c.actR s y = some .acc ∧ T = s :: st) ∨ ∃ p, c.actR s y = some (.sh p) ∧ T = p :: s :: st := by
  unfold finS at h
  dsimp only at h
  cases ha : c.actR s y with
  | none => rw [ha] at h; cases h
  | some a =>
    rw [ha] at h
    cases a with
    | acc => cases h; exact .inl ⟨rfl, rfl⟩
    | sh p => cases h; exact .inr ⟨p, rfl, rfl⟩
    | red k => cases h
theorem act_acc (t : Tc c) {s : Nat} {y : Str} (h : c.actR s y = some .acc) : y = "$" ∧ Rc c (s, c.rs.length, (c.rgt c.rs.length).length, y) := by
  obtain ⟨⟨s', r, d, z⟩, h1, h2, h3⟩ := actR_inv t h
  have hl := h1.lt' t
  dsimp only at hl
  unfold actQ at h3
  unfold keyQ at h2
  dsimp only at h2 h3
  cases hx : (c.rgt r)[d]? with
  | none =>
    rw [hx] at h2 h3
    dsimp only at h2 h3
    cases h2
    have hd : d = (c.rgt r).length := by
      have := List.getElem?_eq_none_iff.mp hx
      omega
    split at h3
    · rename_i hr
      subst hr
      refine ⟨?_, by rw [← hd]; exact h1⟩
      have key : ∀ q : Qd, Rc c q → q.2.1 = c.rs.length → q.2.2.2 = "$" := by
        intro q hq
        induction hq with
        | st => intro _; rfl
        | sh _ _ ih => exact ih
        | @cl q X k y' hq' hX hk e hb ih =>
          intro e1
          exfalso
          have e1 : k = c.rs.length := e1
          rw [e1, ru_last] at e
          exact at_ne t hq' hX e.symm
      exact key _ h1 rfl
    · cases h3
  | some X =>
    rw [hx] at h3
    dsimp only at h3
    split at h3
    · cases h3
    · cases h3
theorem dollar_sg : sgB ("$" : Str) = false := by decide +kernel
theorem Took.snoc (t : Tc c) (one : NoC c) {w : List Str} {S T : List Nat} (k : Took c w S) (hl : w.length ≤ 18) {y : Str} (hy : sgB y = true) (h : feedR c y S = some T) : Took c (w ++ [y]) T := by
  obtain ⟨j, s, st, es, h1, h2, h3, h4, h5, h6⟩ := k.feed t one hl y
  rw [h6] at h
  rcases finS_sh h with ⟨ha, _⟩ | ⟨p, ha, rfl⟩
  · have := (act_acc t ha).1
    rw [this, dollar_sg] at hy
    cases hy
  · obtain ⟨_, hg⟩ := act_sh t ha
    obtain ⟨n, hn⟩ := k.rn
    refine ⟨fun x hx => ?_, ⟨(y, [y], 0) :: es, .push h4 hg (.lf .nil), by rw [txE, h5]⟩, ⟨n + (j + 1), fun rest => ?_⟩, ?_⟩
    · rcases List.mem_append.mp hx with hx | hx
      · exact k.sg x hx
      · rw [List.mem_singleton] at hx
        rw [hx]; exact hy
    · rw [List.append_assoc]
      refine runN_trans (hn _) (runN_trans (rdN_run (ys := rest) j h2) (runN_one ?_))
      show (match c.actR s y with
        | some (.sh p) => some (p :: s :: st, rest)
        | some (.red k) => (match (s :: st).drop (c.rgt k).length with
          | b :: st' => some (c.go b (ruA c.fr k).1 :: b :: st', y :: rest)
          | [] => none)
        | _ => none) = _
      rw [ha]
    · obtain ⟨s0, st0, e0⟩ := k.ne
      obtain ⟨es0, p0, _⟩ := k.pl
      rw [e0] at h2 p0
      have h7 := red_len t one p0 h2
      have h8 := k.ln
      rw [e0] at h8
      simp only [List.length_append, List.length_cons, List.length_nil] at h7 h8 ⊢
      omega
theorem stp_none {y : Str} {ys : List Str} {s : Nat} {st : List Nat} (h : rdS c y (s :: st) = none) (hf : finS c y (s :: st) = none) : stp c (s :: st, y :: ys) = none := by
  unfold rdS at h
  unfold finS at hf
  dsimp only at h hf
  show (match c.actR s y with
    | some (.sh p) => some (p :: s :: st, ys)
    | some (.red k) => (match (s :: st).drop (c.rgt k).length with
      | b :: st' => some (c.go b (ruA c.fr k).1 :: b :: st', y :: ys)
      | [] => none)
    | _ => none) = _
  cases ha : c.actR s y with
  | none => rfl
  | some a =>
    rw [ha] at h hf
    cases a with
    | acc => cases hf
    | sh p => cases hf
    | red k =>
      dsimp only at h ⊢
      cases hd : (s :: st).drop (c.rgt k).length with
      | nil => rfl
      | cons b st' => rw [hd] at h; cases h
theorem it3_dvs (t : Tc c) {w : List Str} {q : I3} (h : It3 c.fr w q) : ∃ m, Dvs c.rs ((c.rgt q.1).take q.2.1) (w.drop q.2.2) m := (der_down t h.dr fun x hx => rgt_ne t h.lt x (List.mem_of_mem_take hx)).dvs
theorem Took.next (t : Tc c) (one : NoC c) (f : FrS c.fr) {w : List Str} {S : List Nat} (k : Took c w S) (hl : w.length ≤ 18) {y : Str} (hy : sgB y = true) : (feedR c y S).isSome = true ↔ ∃ q ∈ setOf c.fr w, symI c.fr (q.1, q.2.1) = some y := by
  obtain ⟨j, s, st, es, h1, h2, h3, h4, h5, h6⟩ := k.feed t one hl y
  constructor
  · intro h
    obtain ⟨T, hT⟩ := Option.isSome_iff_exists.mp h
    rw [h6] at hT
    rcases finS_sh hT with ⟨ha, _⟩ | ⟨p, ha, rfl⟩
    · have := (act_acc t ha).1
      rw [this, dollar_sg] at hy
      cases hy
    · obtain ⟨⟨s', r, d, z⟩, g1, g2, g3⟩ := actR_inv t ha
      unfold actQ at g3
      unfold keyQ at g2
      dsimp only at g2 g3
      cases hx : (c.rgt r)[d]? with
      | none =>
        rw [hx] at g3
        dsimp only at g3
        split at g3 <;> cases g3
      | some X =>
        rw [hx] at g2 g3
        dsimp only at g2 g3
        by_cases hs : sgB X = true
        · rw [if_pos hs] at g2
          cases g2
          have hlt := g1.lt' t
          obtain ⟨ker, k1, k2, _⟩ := g1.qv t.ok t.lw
          obtain ⟨b, st', es1, es2, kb, u, n, p1, p2, p3, p4, p5, p6, p7, p8, p9⟩ := Pile.pop t d h4 k1 k2 hlt.1
          have hw : w = txE es2 ++ u := by rw [← h5, p2, txE_app, p8]
          have hs2 : ∀ x ∈ txE es2, sgB x = true := fun x hx => k.sg x (by rw [hw]; exact List.mem_append_left _ hx)
          have hsu : ∀ x ∈ u, sgB x = true := fun x hx => k.sg x (by rw [hw]; exact List.mem_append_right _ hx)
          have a := Pile.act t es2.length rfl p4 p5 hs2 _ (Nat.le_refl _) r p6 hlt.1
          refine ⟨(r, d, (txE es2).length), (chart_iff f k.sg).mpr ⟨hlt.1, hlt.2.1, ?_, ?_, ?_⟩, hx⟩
          · show (txE es2).length ≤ w.length
            rw [hw, List.length_append]; omega
          · show Act c.fr (w.take (txE es2).length) r
            rw [hw, List.take_left]; exact a
          · show DerS c.fr ((ruA c.fr r).2.take d) (w.drop (txE es2).length)
            rw [hw, List.drop_left]
            exact pop_der p7 hsu
        · rw [if_neg hs] at g3
          cases g3
  · rintro ⟨⟨r, d, o⟩, hq, hX⟩
    have it := (chart_iff f k.sg).mp hq
    have hX' : (c.rgt r)[d]? = some y := hX
    have hdr : (c.rgt r).drop d = y :: (c.rgt r).drop (d + 1) := drop_cons hX'
    obtain ⟨m, hv⟩ := it3_dvs t it
    dsimp only at hv
    have hsp : c.rgt r = (c.rgt r).take d ++ (c.rgt r).drop d := (List.take_append_drop d (c.rgt r)).symm
    have hF : Fst c.rs ((c.rgt r).drop d) y := by rw [hdr]; exact .sg hy
    obtain ⟨y0, ys0, e0, hF0⟩ : ∃ y0 ys0, w.drop o ++ y :: [] = y0 :: ys0 ∧ Fst c.rs (c.rgt r) y0 := by
      cases hv2 : w.drop o with
      | nil =>
        rw [hv2] at hv
        refine ⟨y, [], rfl, ?_⟩
        rw [hsp]
        exact Fst.skip hv.der hF
      | cons a v =>
        rw [hv2] at hv
        refine ⟨a, v ++ [y], rfl, ?_⟩
        rw [hsp]
        exact (hv.fst rfl).app _
    obtain ⟨s1, st1, n1, z, r1, rc⟩ := act_run t one it.ac hF0 ys0
    dsimp only at r1
    rw [← e0, ← List.append_assoc, List.take_append_drop] at r1
    have r2 := follow t one hv (q2 := (c.rgt r).drop d) (y := y) (ys := []) st1 rc (by rw [List.drop_zero]; exact hsp) (.inl hF)
    obtain ⟨t2, st2, p2, rc2⟩ := Rc.along ((c.rgt r).take d) (q2 := (c.rgt r).drop d) st1 rc (by rw [List.drop_zero]; exact hsp)
    have hld : ((c.rgt r).take d).length = d := by
      rw [List.length_take]
      have := (List.getElem?_eq_some_iff.mp hX').1
      omega
    rw [hld, Nat.zero_add] at rc2
    have hact := act_sg t one rc2 hX' hy
    have r3 : stp c (pth c s1 ((c.rgt r).take d) st1, [y]) = some (c.go t2 y :: t2 :: st2, []) := by
      rw [p2]
      show (match c.actR t2 y with
        | some (.sh p) => some (p :: t2 :: st2, [])
        | some (.red k) => (match (t2 :: st2).drop (c.rgt k).length with
          | b :: st' => some (c.go b (ruA c.fr k).1 :: b :: st', [y])
          | [] => none)
        | _ => none) = _
      rw [hact]
    have R := runN_trans (runN_trans r1 r2) (runN_one r3)
    cases hf : feedR c y S with
    | some T => rfl
    | none =>
      exfalso
      rw [h6] at hf
      obtain ⟨n, hn⟩ := k.rn
      have E : Ends c (n + j) ([0], w ++ [y]) := ⟨_, runN_trans (hn [y]) (rdN_run (ys := []) j h2), stp_none h3 hf⟩
      obtain ⟨_, E2⟩ := E.from R
      obtain ⟨yy, e1, e2⟩ := E2
      have E' := runN_trans R e1
      have hle := (Ends.from E R).1
      have : n1 + (m + (w.drop o).length) + 1 + (n + j - (n1 + (m + (w.drop o).length) + 1)) = n + j := by omega
      rw [this, runN_trans (hn [y]) (rdN_run (ys := []) j h2)] at E'
      have := runN_le _ e1
      rw [← Option.some.inj E'] at this
      simp at this
theorem Took.done (t : Tc c) (one : NoC c) (f : FrS c.fr) {w : List Str} {S : List Nat} (k : Took c w S) (hl : w.length ≤ 18) : (feedR c "$" S).isSome = true ↔ (c.rs.length, 1, 0) ∈ setOf c.fr w := by
  obtain ⟨j, s, st, es, h1, h2, h3, h4, h5, h6⟩ := k.feed t one hl "$"
  have hlast : c.rgt c.rs.length = [startG c.rs] := by unfold rgt; rw [ru_last]
  constructor
  · intro h
    obtain ⟨T, hT⟩ := Option.isSome_iff_exists.mp h
    rw [h6] at hT
    rcases finS_sh hT with ⟨ha, _⟩ | ⟨p, ha, rfl⟩
    · obtain ⟨_, rc⟩ := act_acc t ha
      have hlt := rc.lt' t
      obtain ⟨ker, k1, k2, _⟩ := rc.qv t.ok t.lw
      have e1 : (c.rgt c.rs.length).length = 1 := by rw [hlast]; rfl
      obtain ⟨b, st', es1, es2, kb, u, n, p1, p2, p3, p4, p5, p6, p7, p8, p9⟩ := Pile.pop t _ h4 k1 k2 hlt.1
      have hb : es2 = [] := by
        rcases closed_src p6 with hz | ⟨_, q, hq, hz⟩
        · cases p4 with
          | base => rfl
          | @push b' _ st'' es' X u' n' p' hg hd =>
            exfalso
            obtain ⟨kb', hb'⟩ := Pile.ker t p'
            obtain ⟨_, hks⟩ := t.ok.tb.go_inv hb' hg
            rw [p5] at hks
            cases hks
            obtain ⟨q, _, _, e⟩ := mem_kerTo.mp hz
            have := (Prod.mk.inj e).2
            omega
        · exfalso
          rw [ru_last] at hz
          have hz : (c.rgt q.1)[q.2]? = some ("" : Str) := hz
          have hqf : q.1 < c.fr.length := by
            by_cases hy : q.1 < c.fr.length
            · exact hy
            · exfalso
              have : ruA c.fr q.1 = default := by
                unfold ruA
                rw [List.getD_eq_getElem?_getD, List.getElem?_eq_none (by omega)]
                rfl
              unfold rgt at hz
              rw [this] at hz
              cases hz
          exact rgt_ne t hqf _ (List.mem_of_getElem? hz) rfl
      have hw : w = u := by rw [← h5, p2, txE_app, p8, hb]; rfl
      refine (chart_iff f k.sg).mpr ⟨by show c.rs.length < _; rw [fr_len]; omega, by show 1 ≤ (c.rgt c.rs.length).length; rw [hlast]; exact Nat.le_refl _, Nat.zero_le _, ?_, ?_⟩
      · show Act c.fr (w.take 0) c.rs.length
        have := Act.st (fr := c.fr)
        rwa [show c.fr.length - 1 = c.rs.length by rw [fr_len]; omega] at this
      · show DerS c.fr ((ruA c.fr c.rs.length).2.take 1) (w.drop 0)
        rw [List.drop_zero, hw]
        have := pop_der p7 fun x hx => k.sg x (by rw [hw]; exact hx)
        rw [e1] at this
        exact this
    · exfalso
      have := (act_sh t ha).1
      rw [dollar_sg] at this
      cases this
  · intro hq
    have it := (chart_iff f k.sg).mp hq
    obtain ⟨m, hv⟩ := it3_dvs t it
    dsimp only at hv
    rw [List.drop_zero, hlast] at hv
    have hv : Dvs c.rs [startG c.rs] w m := hv
    have r1 := follow t one hv (q2 := []) (y := "$") (ys := []) [] (Rc.st (c := c)) (by rw [hlast]; rfl) (.inr ⟨rfl, .nil⟩)
    have rc : Rc c (c.go 0 (startG c.rs), c.rs.length, (c.rgt c.rs.length).length, ("$" : Str)) := by
      rw [hlast]
      have : Rc c ((goB c.rows 0 (startG c.rs)).getD 0, c.rs.length, 0 + 1, ("$" : Str)) := .sh .st (by dsimp only; rw [hlast]; rfl)
      exact this
    have ha := act_end t one rc
    rw [if_pos rfl] at ha
    have hs : stp c (pth c 0 [startG c.rs] [], [("$" : Str)]) = none := by
      show (match c.actR (c.go 0 (startG c.rs)) "$" with
        | some (.sh p) => some (p :: [c.go 0 (startG c.rs), 0], [])
        | some (.red k) => (match [c.go 0 (startG c.rs), 0].drop (c.rgt k).length with
          | b :: st' => some (c.go b (ruA c.fr k).1 :: b :: st', [("$" : Str)])
          | [] => none)
        | _ => none) = none
      rw [ha]
    cases hf : feedR c "$" S with
    | some T => rfl
    | none =>
      exfalso
      rw [h6] at hf
      obtain ⟨n, hn⟩ := k.rn
      have R := runN_trans (hn [("$" : Str)]) (rdN_run (ys := []) j h2)
      have E : Ends c (n + j) ([0], w ++ [("$" : Str)]) := ⟨_, R, stp_none h3 hf⟩
      have E2 : Ends c (m + w.length) ([0], w ++ [("$" : Str)]) := ⟨_, r1, hs⟩
      have he := E.uniq E2
      rw [he, r1] at R
      have e := (Prod.mk.inj (Option.some.inj R)).1
      have e : c.go 0 (startG c.rs) = s := (List.cons.inj e).1
      unfold finS at hf
      dsimp only at hf
      rw [← e, ha] at hf
      cases hf
end Cx0
end LW
namespace LW
open PySem L2 DL
inductive Clm where
  | tt (b : Bool) | cn (n : Nat) (X : Str)
namespace Cx0
variable {c : Cx0}
theorem pile_to (t : Tc c) (ld : LdI c.fr c.ks) : ∀ (n : Nat) (ker : Ker), c.ks[n]? = some ker → ∃ st es, Pile c (n :: st) es
  | n, ker, hn => by
    rcases ld n ker hn with rfl | ⟨b, kb, X, hlt, hb, hX, e⟩
    · exact ⟨[], [], .base⟩
    · obtain ⟨st, es, p⟩ := pile_to t ld b kb hb
      obtain ⟨q, hq, hs⟩ := mem_syms.mp hX
      obtain ⟨m, hm, hk⟩ := t.ok.tb.go hb hq hs
      have hmn : m = n := by
        rw [e] at hn
        have nd := t.ok.tb.kso.nd
        obtain ⟨l1, e1⟩ := List.getElem?_eq_some_iff.mp hn
        obtain ⟨l2, e2⟩ := List.getElem?_eq_some_iff.mp hk.1
        exact (List.getElem_inj nd).mp (e2.trans e1.symm)
      subst hmn
      exact ⟨b :: st, (X, [X], 0) :: es, .push p hm (.lf .nil)⟩
termination_by n => n
def pushN (c : Cx0) (y : Str) : Nat → List Nat → Option Clm
  | 0, _ => none
  | _ + 1, [] => none
  | m + 1, s :: st => match c.actR s y with
    | none => some (.tt false)
    | some .acc => some (.tt true)
    | some (.sh _) => some (.tt true)
    | some (.red k) => if (s :: st).length ≤ (c.rgt k).length then some (.cn ((c.rgt k).length - (s :: st).length + 1) (ruA c.fr k).1)
      else match (s :: st).drop (c.rgt k).length with
        | b :: st' => pushN c y m (c.go b (ruA c.fr k).1 :: b :: st')
        | [] => none
def pushR (c : Cx0) (y : Str) (s : Nat) (X : Str) : Clm := (pushN c y 1000000 [c.go s X, s]).getD (.tt false)
def claimR (c : Cx0) (y : Str) (s : Nat) : Clm := match c.actR s y with
  | none => .tt false
  | some .acc => .tt true
  | some (.sh _) => .tt true
  | some (.red k) => if c.rgt k ≠ [] then .cn (c.rgt k).length (ruA c.fr k).1 else pushR c y s (ruA c.fr k).1
end Cx0
end LW
namespace LW
open PySem L2 DL
namespace Cx0
variable {c : Cx0}
theorem get_act {bd : D} (i3 : ixD (.fz bd) (.fz (.int 3)) = some (.dct true true (kvsB kQS aD (oneA c.actsR)))) {s : Nat} {y : Str} {mb mk : DL.Env → Rz EV} {env : DL.Env} (hb : mb env = .ok (.fz bd)) (hk : mk env = .ok (.fz (kQS (s, y)))) :
    (mGet1 (m2 mb (mC (.int 3)) opIx) mk) env = .ok (.fz (actD (c.actR s y))) := by
  have hd : dOf (.fz (.dct true true (kvsB kQS aD (oneA c.actsR)))) = .ok (true, kvsB kQS aD (oneA c.actsR)) := rfl
  unfold mGet1
  rw [hk]
  simp only [m2_e, hb, mC_e, Rz.ok_bind, opIx_e, i3, orStuck_some, hd]
  rw [if_pos (keQS.ok (s, y)), dfind_kvsB keQS]
  unfold actR
  cases getB (oneA c.actsR) (s, y) <;> rfl
theorem pair_key {ma mb : DL.Env → Rz EV} {env : DL.Env} {s : Nat} {y : Str} (ha : ma env = .ok (.fz (.int (s : Nat)))) (hb : mb env = .ok (.fz (.str y))) : (mTup (mCons ma (mCons mb mNil))) env = .ok (.fz (kQS (s, y))) := by
  have z2 : (2 : Nat) ≤ sizeLine := size_big (by decide)
  simp only [mTup_e, mCons_e, mNil_e, ha, hb, Rz.ok_bind, EV.fr_fz, allFz_fz, allFz_nil, Option.map_some, orStuck_some, List.length_cons, List.length_nil]
  rw [if_pos z2]
  rfl
theorem s_ac : ("reduce" : Str) ≠ "accept" ∧ ("shift" : Str) ≠ "accept" ∧ ("reduce" : Str) ≠ "shift" ∧ ("accept" : Str) ≠ "reduce" ∧ ("shift" : Str) ≠ "reduce" := by decide +kernel
theorem ix_red1 (k : Nat) : opIx (.fz (aD (.red k))) (.fz (.int 1)) = .ok (.fz (.int (k : Nat))) := rfl
theorem rule_at {bd : D} (i0 : ixD (.fz bd) (.fz (.int 0)) = some (.lst (c.fr.map rL))) {k : Nat} (hk : k < c.fr.length) {mb mk : DL.Env → Rz EV} {env : DL.Env} (hb : mb env = .ok (.fz bd)) (hm : mk env = .ok (.fz (.int (k : Nat)))) :
    (m2 (m2 mb (mC (.int 0)) opIx) mk opIx) env = .ok (.fz (rL (ruA c.fr k))) := by
  have a0 := at_frL c.fr k hk
  simp only [m2_e, hb, hm, mC_e, Rz.ok_bind, opIx_e, i0, orStuck_some, ixD_lst, a0]
theorem rgt_len4 (t : Tc c) {k : Nat} (hk : k < c.fr.length) : (c.rgt k).length ≤ 4 := by
  have f := frOk t.ok
  unfold rgt
  rw [ruA_at hk]
  exact f.len _ (List.getElem_mem hk)
structure Prts (c : Cx0) (bd : D) : Prop where
  i0 : ixD (.fz bd) (.fz (.int 0)) = some (.lst (c.fr.map rL))
  i2 : ixD (.fz bd) (.fz (.int 2)) = some (.lst (c.rows.map rowD))
  i3 : ixD (.fz bd) (.fz (.int 3)) = some (.dct true true (kvsB kQS aD (oneA c.actsR)))
end Cx0
end LW
namespace LW
open PySem L2 DL
structure Gsz (rs : List Rl) : Prop where
  ne : rs ≠ []
  ok : ∀ r ∈ rs, OkR r
  ru : ∀ r ∈ rs, isRule r = true
  r60 : rs.length ≤ 60
theorem Gsz.len {rs : List Rl} (g : Gsz rs) : ∀ r ∈ rs, r.2.length ≤ 4 := fun r hr => by
  have := g.ru r hr
  unfold isRule at this
  simp at this
  exact this.1.2
theorem Gsz.allR {rs : List Rl} (g : Gsz rs) : (LW.allR rs).length ≤ 240 := by
  have h := g.len
  have hr := g.r60
  have key : ∀ l : List Rl, (∀ r ∈ l, r.2.length ≤ 4) → (LW.allR l).length ≤ 4 * l.length := by
    intro l
    induction l with
    | nil => intro _; simp
    | cons r l ih =>
      intro h
      have h1 := h r List.mem_cons_self
      have h2 := ih fun q hq => h q (.tail _ hq)
      show ((r :: l).flatMap (·.2)).length ≤ _
      rw [List.flatMap_cons, List.length_append, List.length_cons]
      have h2 : (l.flatMap (·.2)).length ≤ 4 * l.length := h2
      omega
  have := key rs h
  omega
def bndR (rs : List Rl) : Option Str := if 12 < rs.length then some "rules" else if 6 < (namesG rs).length then some "names" else if 6 < (signsG rs).length then some "signs" else none
theorem Gsz.gok {rs : List Rl} (g : Gsz rs) (h : bndR rs = none) : Gok rs := by
  unfold bndR at h
  split at h
  · cases h
  · split at h
    · cases h
    · split at h
      · cases h
      · exact ⟨g.ne, g.ok, g.ru, by omega, by omega, by omega⟩
end LW
namespace LW
open PySem L2 DL
open TL (tl len_tl tl_append tl_join split_join join_eq ext_tl)
end LW
namespace LW
open PySem L2 DL
open TL (tl len_tl tl_append tl_join split_join join_eq ext_tl)
end LW
namespace LW
open PySem L2 DL
open TL (tl len_tl tl_append tl_join split_join join_eq ext_tl)
end LW
namespace LW
open PySem L2 DL
open TL (tl len_tl tl_append tl_join split_join join_eq ext_tl)
theorem opEq_d {a b : EV} {k : Bool} (h : eqD a.d b.d = some k) : opEq a b = .ok (.fz (.bl k)) := by
  unfold opEq; rw [h]; rfl
theorem eStL : Enc 2 (fun l : List Str => D.lst (stD l)) := ⟨fun x y h => by
  have h : x.map D.str = y.map D.str := by simpa using h
  exact (List.map_inj_right fun a b e => by simpa using e).mp h, fun x => ⟨_, .inr rfl⟩, by decide⟩
theorem se_stL {l : List Str} (hl : l.length ≤ 100000) (h : ∀ x ∈ l, PyData.strOk x = true) : SE 2 (D.lst (stD l)) := ⟨by simpa using hl, fun d hd => by
  obtain ⟨x, hx, rfl⟩ := List.mem_map.mp hd
  exact h x hx⟩
end LW
namespace LW
open PySem L2 DL
namespace Cx0
variable {c : Cx0}
section
variable {F : Fn} {env : DL.Env} {a b d e : EV} {r : Rz EV} {ma mb md me : DL.Env → Rz EV}
theorem call2 (h1 : ma env = .ok a) (h2 : mb env = .ok b) (hF : appF F [a.fr, b.fr] = r) : mFn F (mCons ma (mCons mb mNil)) 2 env = r := by
  simp only [mFn_e, mCons_e, mNil_e, h1, h2, Rz.ok_bind, List.length_cons, List.length_nil, if_true, hF]
theorem call4 (h1 : ma env = .ok a) (h2 : mb env = .ok b) (h3 : md env = .ok d) (h4 : me env = .ok e) (hF : appF F [a.fr, b.fr, d.fr, e.fr] = r) : mFn F (mCons ma (mCons mb (mCons md (mCons me mNil)))) 4 env = r := by
  simp only [mFn_e, mCons_e, mNil_e, h1, h2, h3, h4, Rz.ok_bind, List.length_cons, List.length_nil, if_true, hF]
theorem m2_go {ma mb : DL.Env → Rz EV} {g : EV → EV → Rz EV} (h1 : ma env = .ok a) (h2 : mb env = .ok b) (h : g a b = r) : m2 ma mb g env = r := by
  rw [m2_e, h1, h2]; exact h
theorem mB_go {m : DL.Env → Rz EV} {k : Bool} (h : m env = .ok (.fz (.bl k))) : mB m env = .ok k := by
  rw [mB_e, h]; rfl
end
end Cx0
end LW
namespace LW
open PySem L2 DL
namespace Cx0
variable {c : Cx0} {fs : List (Str × D)}
def clD : Clm → D
  | .tt b => .bl b
  | .cn n X => .tup [.int (n : Nat), .str X]
theorem len_at {m : DL.Env → Rz EV} {env : DL.Env} {q : List Str} (h : m env = .ok (.fz (.tup (stD q))) ∨ m env = .ok (.fz (.lst (stD q)))) : (mCall (mCons m mNil) gLen) env = .ok (.fz (.int (q.length : Nat))) := by
  have h1 : gLen [.fz (.tup (stD q))] = .ok (.fz (.int (q.length : Nat))) := by rw [gLen_tup]; simp [stD]
  have h2 : gLen [.fz (.lst (stD q))] = .ok (.fz (.int (q.length : Nat))) := by rw [gLen_lst]; simp [stD]
  rcases h with h | h
  · simp only [mCall_e, mCons_e, h, mNil_e, Rz.ok_bind]; exact h1
  · simp only [mCall_e, mCons_e, h, mNil_e, Rz.ok_bind]; exact h2
theorem tup2_ok {ma mb : DL.Env → Rz EV} {env : DL.Env} {a b : D} (h1 : ma env = .ok (.fz a)) (h2 : mb env = .ok (.fz b)) : (mTup (mCons ma (mCons mb mNil))) env = .ok (.fz (.tup [a, b])) := by
  have z2 : (2 : Nat) ≤ sizeLine := size_big (by decide)
  simp only [mTup_e, mCons_e, mNil_e, h1, h2, Rz.ok_bind, EV.fr_fz, allFz_fz, allFz_nil, Option.map_some, orStuck_some, List.length_cons, List.length_nil]
  rw [if_pos z2]
theorem ret_ok {m : DL.Env → Rz EV} {env : DL.Env} {a : EV} (h : m env = .ok a) : mRet m env = .ret a := by rw [mRet_e, h]
section
variable {s0 : Nat} {X y : Str} {s : Nat} {st : List Nat} {v5 v6 v7 : SL}
def kindA : Ac → Str
  | .acc => "accept"
  | .red _ => "reduce"
  | .sh _ => "shift"
theorem ix_kind (a : Ac) : opIx (.fz (aD a)) (.fz (.int 0)) = .ok (.fz (.str (kindA a))) := by cases a <;> rfl
def isRed : Ac → Bool
  | .red _ => true
  | _ => false
theorem ne_red (a : Ac) {i : Nat} {env : DL.Env} (h : env.getD i .no = .val (aD a)) : (mB (m2 (m2 (mV i) (mC (.int 0)) opIx) (mC (.str "reduce")) opNe)) env = .ok (!isRed a) := by
  have h1 : (m2 (mV i) (mC (.int 0)) opIx) env = .ok (.fz (.str (kindA a))) := m2_go (by rw [mV_e, h]; rfl) rfl (ix_kind a)
  refine mB_go (m2_go h1 rfl ?_)
  cases a with
  | acc => unfold kindA; rw [opNe_str, decide_eq_false s_ac.2.2.2.1]; rfl
  | red k => unfold kindA; rw [opNe_str, decide_eq_true rfl]; rfl
  | sh p => unfold kindA; rw [opNe_str, decide_eq_false s_ac.2.2.2.2]; rfl
end
theorem is_act {i : Nat} {env : DL.Env} {o : Option Ac} (h : env.getD i .no = .val (actD o)) : (mB (m2 (mV i) (mC .non) opIs)) env = .ok o.isNone := by
  have h1 : (mV i) env = .ok (.fz (actD o)) := by rw [mV_e, h]; rfl
  refine mB_go (m2_go h1 rfl ?_)
  cases o with
  | none => rfl
  | some a => cases a <;> rfl
theorem isn_act {i : Nat} {env : DL.Env} {o : Option Ac} (h : env.getD i .no = .val (actD o)) : (m2 (mV i) (mC .non) opIsn) env = .ok (.fz (.bl o.isSome)) := by
  have h1 : (mV i) env = .ok (.fz (actD o)) := by rw [mV_e, h]; rfl
  refine m2_go h1 rfl ?_
  cases o with
  | none => rfl
  | some a => cases a <;> rfl
def stopB : Option Ac → Bool
  | none => true
  | some a => !isRed a
theorem or_act {i : Nat} {env : DL.Env} {o : Option Ac} (h : env.getD i .no = .val (actD o)) : (mOr (mB (m2 (mV i) (mC .non) opIs)) (mB (m2 (m2 (mV i) (mC (.int 0)) opIx) (mC (.str "reduce")) opNe))) env = .ok (stopB o) := by
  have h1 := is_act h
  unfold mOr
  rw [h1]
  cases o with
  | none => rfl
  | some a => exact ne_red a h
end Cx0
end LW
namespace LW
open PySem L2 DL
namespace Cx0
variable {c : Cx0}
def lcB (F : Fn) : DL.Env → Out := (mSeq (mSetF 3 (mGet1 (m2 (mV 0) (mC (.int 3)) opIx) (mTup (mCons (mV 1) (mCons (mV 2) mNil)))))
    (mSeq (mIfS (mOr (mB (m2 (mV 3) (mC .non) opIs)) (mB (m2 (m2 (mV 3) (mC (.int 0)) opIx) (mC (.str "reduce")) opNe)))
      (mRet (m2 (mV 3) (mC .non) opIsn))
      Out.nx)
    (mSeq (mSetF 4 (m2 (m2 (mV 0) (mC (.int 0)) opIx) (m2 (mV 3) (mC (.int 1)) opIx) opIx))
    (mSeq (mIfS (mB (m2 (m2 (mV 4) (mC (.int 1)) opIx) (mLst mNil) opNe))
      (mRet (mTup (mCons (mCall (mCons (m2 (mV 4) (mC (.int 1)) opIx) mNil) gLen) (mCons (m2 (mV 4) (mC (.int 0)) opIx) mNil))))
      Out.nx)
    (mRet (mFn F (mCons (mV 0) (mCons (mV 1) (mCons (m2 (mV 4) (mC (.int 0)) opIx) (mCons (mV 2) mNil)))) 4))))))
theorem lc_go (t : Tc c) (ld : LdI c.fr c.ks) {bd : D} (q : Prts c bd) {F : Fn} {s : Nat} {y : Str} (hs : s < c.ks.length)
    (hF : ∀ X b, goB c.rows s X = some b → appF F [.fz bd, .fz (.int (s : Nat)), .fz (.str X), .fz (.str y)] = .ok (.fz (clD (pushR c y s X)))) : DL.runB 5 (lcB F) [bd, .int (s : Nat), .str y] = .ok (.fz (clD (claimR c y s))) := by
  have e0 : (mSetF 3 (mGet1 (m2 (mV 0) (mC (.int 3)) opIx) (mTup (mCons (mV 1) (mCons (mV 2) mNil))))) [.val bd, .val (.int (s : Nat)), .val (.str y), .no, .no] = .nx [.val bd, .val (.int (s : Nat)), .val (.str y), .val (actD (c.actR s y)), .no] :=
    setF_ok (get_act q.i3 rfl (pair_key rfl rfl)) rfl
  unfold DL.runB lcB
  rw [show List.map SL.val [bd, .int (s : Nat), .str y] ++ List.replicate (5 - [bd, .int (s : Nat), .str y].length) SL.no = [.val bd, .val (.int (s : Nat)), .val (.str y), .no, .no] from rfl]
  rw [seq_ok e0]
  unfold claimR
  have ho := or_act (i := 3) (env := [.val bd, .val (.int (s : Nat)), .val (.str y), .val (actD (c.actR s y)), .no]) (o := c.actR s y) rfl
  have hn := isn_act (i := 3) (env := [.val bd, .val (.int (s : Nat)), .val (.str y), .val (actD (c.actR s y)), .no]) (o := c.actR s y) rfl
  cases ha : c.actR s y with
  | none =>
    rw [ha] at ho hn
    rw [seq_ret ((ifT ho).trans (ret_ok hn))]
    rfl
  | some a =>
    rw [ha] at ho hn
    cases a with
    | acc => rw [seq_ret ((ifT ho).trans (ret_ok hn))]; rfl
    | sh p => rw [seq_ret ((ifT ho).trans (ret_ok hn))]; rfl
    | red k =>
      obtain ⟨hk, hrc⟩ := act_red t ha
      have hkf : k < c.fr.length := by rw [fr_len]; omega
      have e1 : (mSetF 4 (m2 (m2 (mV 0) (mC (.int 0)) opIx) (m2 (mV 3) (mC (.int 1)) opIx) opIx)) [.val bd, .val (.int (s : Nat)), .val (.str y), .val (actD (some (.red k))), .no] = .nx [.val bd, .val (.int (s : Nat)), .val (.str y), .val (actD (some (.red k))), .val (rL (ruA c.fr k))] :=
        setF_ok (rule_at q.i0 hkf rfl (m2_go rfl rfl (ix_red1 k))) rfl
      rw [seq_ok (a := mIfS _ _ _) (ifF ho), seq_ok e1]
      dsimp only
      have ht : (mB (m2 (m2 (mV 4) (mC (.int 1)) opIx) (mLst mNil) opNe)) [.val bd, .val (.int (s : Nat)), .val (.str y), .val (actD (some (.red k))), .val (rL (ruA c.fr k))] = .ok (!decide (c.rgt k = [])) := by
        have hn0 : (mLst mNil) [.val bd, .val (.int (s : Nat)), .val (.str y), .val (actD (some (.red k))), .val (rL (ruA c.fr k))] = .ok (.ow true (.lst [])) := by
          simp only [mLst_e, mNil_e, Rz.ok_bind, allFz_nil, orStuck_some, List.length_nil]
          rw [if_pos (Nat.zero_le _)]
        have h1 : (m2 (mV 4) (mC (.int 1)) opIx) [.val bd, .val (.int (s : Nat)), .val (.str y), .val (actD (some (.red k))), .val (rL (ruA c.fr k))] = .ok (.fz (.lst (stD (c.rgt k)))) := rfl
        have hk2 : ∀ x ∈ c.rgt k, PyData.strOk x = true := fun x hx => (rgt_ok t.ok hkf x hx).1.1
        have h4 := rgt_len4 t hkf
        exact mB_go (m2_go h1 hn0 (opNe_d (eqD_en eStL (x := c.rgt k) (y := []) (se_stL (by omega) hk2) (se_stL (l := []) (by simp) (by simp)))))
      by_cases hq : c.rgt k ≠ []
      · rw [decide_eq_false hq] at ht
        rw [if_pos hq, seq_ret ((ifT ht).trans (ret_ok (tup2_ok (len_at (.inr rfl)) rfl)))]
        rfl
      · have hq' : c.rgt k = [] := by simpa using hq
        rw [decide_eq_true hq'] at ht
        rw [if_neg hq, seq_ok (a := mIfS _ _ _) (ifF ht)]
        obtain ⟨st, es, p⟩ := pile_to t ld s _ (List.getElem?_eq_getElem hs)
        obtain ⟨b, st', es1, es2, u, n, g1, g2, g3, g4, g5, g6, g7⟩ := Pile.red t p ha
        rw [hq'] at g1
        have g1 : s :: st = b :: st' := g1
        obtain ⟨rfl, rfl⟩ := List.cons.inj g1
        rw [ret_ok (call4 rfl rfl rfl rfl (hF _ _ g7))]
end Cx0
end LW
namespace LW
open PySem L2 DL
namespace Cx0
end Cx0
end LW
namespace LW
open PySem L2 DL
namespace Cx0
variable {c : Cx0} {fs : List (Str × D)}
theorem fld_go {cs : List Str} {f : Str} {m : DL.Env → Rz EV} {env : DL.Env} {a : EV} {d x : D} (h : m env = .ok a) (ha : a.d = d) (hf : fldD cs f d = some x) : mFld cs f m env = .ok (.fz x) := by
  unfold mFld
  rw [h]
  show (orStuck (fldD cs f a.d) >>= _) = _
  rw [ha, hf]
  rfl
theorem appF_pure {F : Fn} {evs : List EV} {ds : List D} {x : D} (hd : evs.map EV.d = ds) (h : F ds = .ok (.fz x)) (hp : pureD x = true) : appF F evs = .ok (.fz x) := by
  unfold appF
  rw [hd, h]
  dsimp only
  split
  · rfl
  · show (if pureD x = true then Rz.ok (EV.fz x) else .stuck) = _
    rw [if_pos hp]
end Cx0
end LW
namespace LW
open PySem L2 DL
namespace Cx0
end Cx0
end LW
namespace LW
open PySem L2 DL
namespace Cx0
end Cx0
end LW
namespace LW
open PySem L2 DL
namespace Cx0
end Cx0
end LW
namespace LW
open PySem L2 DL
open TL (tl len_tl tl_append tl_join split_join join_eq ext_tl)
namespace Cx0
end Cx0
end LW
namespace LW.BT
open PySem L2 DL
open LW.Cx0
def kN (ns : List Nat) : D := .tup (natD ns)
theorem natD_inj {a b : List Nat} (h : natD a = natD b) : a = b := (List.map_inj_right fun x y z => by
  have z : ((x : Nat) : Int) = (y : Nat) := by simpa using z
  omega).mp h
theorem natD_dk (ns : List Nat) : natD ns = (ns.map fun (n : Nat) => (Sum.inl (n : Int) : Key)).map dkV := by
  rw [List.map_map]; rfl
theorem keN : KeyE true kN := ⟨fun a b => by
  have h := keyEq_dt (a.map fun (n : Nat) => (Sum.inl (n : Int) : Key)) (b.map fun (n : Nat) => (Sum.inl (n : Int) : Key))
  unfold kN
  rw [natD_dk, natD_dk]
  refine h.trans ?_
  rw [decide_eq_decide]
  constructor
  · intro e
    exact (List.map_inj_right fun x y z => by
      have z : ((x : Nat) : Int) = (y : Nat) := by simpa using z
      omega).mp e
  · exact fun e => by rw [e], fun a => by
  show (keys? (natD a)).isSome = true
  rw [natD_dk, keys?_dk]; rfl⟩
theorem eKN : Enc 3 kN := ⟨fun x y h => natD_inj (D.tup.inj h), fun x => ⟨_, .inl rfl⟩, by decide⟩
theorem eNL : Enc 3 (fun ns : List Nat => D.lst (natD ns)) := ⟨fun x y h => natD_inj (D.lst.inj h), fun x => ⟨_, .inr rfl⟩, by decide⟩
theorem se_nat (ns : List Nat) : ∀ d ∈ natD ns, SE 2 d := fun d hd => by
  obtain ⟨n, _, rfl⟩ := List.mem_map.mp hd
  trivial
theorem se_kN {ns : List Nat} (h : ns.length ≤ 100000) : SE 3 (kN ns) := ⟨by rw [natD, List.length_map]; exact h, se_nat ns⟩
theorem se_nl {ns : List Nat} (h : ns.length ≤ 100000) : SE 3 (.lst (natD ns)) := ⟨by rw [natD, List.length_map]; exact h, se_nat ns⟩
abbrev sgD (A : List Str) : D := .ins "Signs" [("words", .tup (stD A))]
abbrev RV : Type := List Str × Str
def rvD (r : RV) : D := .tup [sgD r.1, .str r.2]
abbrev BK : Type := List (List Nat × RV)
abbrev bkD (B : BK) : List (D × D) := kvsB kN rvD B
abbrev bkF (B : BK) : List (Str × T) := [("rows", .dct true false (leafP (bkD B)))]
abbrev bkT (B : BK) : SL := .tre false (.ins "Book" (bkF B))
abbrev bkS (B : BK) : SL := .tre true (.ins "Book" (bkF B))
abbrev bkV (B : BK) : D := .ins "Book" [("rows", .dct true true (bkD B))]
theorem fldS (B : BK) : fldTK ["Book"] "rows" (bkS B) = some (true, ("Book" : Str), bkF B, bkD B) := fldTK_go (List.mem_singleton.mpr rfl) rfl
theorem fldB (B : BK) : fldTK ["Book"] "rows" (bkT B) = some (false, ("Book" : Str), bkF B, bkD B) := fldTK_go (List.mem_singleton.mpr rfl) rfl
theorem dTk_leaf : ∀ kvs : List (D × D), dTk (leafP kvs) = kvs
  | [] => rfl
  | (k, d) :: r => by
    show (k, (T.leaf d).d) :: dTk (leafP r) = _
    rw [dTk_leaf r]; rfl
theorem frz_book (B : BK) : D.ins "Book" (dTf (tputF "rows" (.dct true true (leafP (bkD B))) (bkF B))) = bkV B := by
  have : dTf (tputF "rows" (.dct true true (leafP (bkD B))) (bkF B)) = ([("rows", D.dct true true (dTk (leafP (bkD B))))] : List (Str × D)) := rfl
  rw [this, dTk_leaf]
theorem init_book : I_Book_init [] = .ok (bkF []) := by kernel_rfl
theorem new_book (i : Nat) (env : DL.Env) : (mMkTG i "Book" I_Book_init) env = .nx (env.set i (bkT [])) := by
  unfold mMkTG
  rw [init_book]
theorem lendK_go {i : Nat} {m : DL.Env → Rz EV} {env : DL.Env} {B : BK} {ev : EV} (h : env.getD i .no = bkT B) (hm : m (env.set i (.val (bkV B))) = .ok ev) (hp : pureE ev = true) : (mLendK i ["Book"] "rows" m) env = .ok ev := by
  unfold mLendK
  rw [h, fldB]
  dsimp only
  rw [frz_book, hm]
  dsimp only
  rw [if_pos hp]
theorem set_run (B : BK) (t : List Nat) (w : RV) (hB : B.length ≤ 1000) : F_Book_setitem (bkF B) [kN t, rvD w] = .ok .non (bkF (putB B t w)) := by
  unfold F_Book_setitem runT b_Book_setitem
  rw [show (SL.tre true (.ins "Book" (bkF B)) :: ([kN t, rvD w].map SL.val ++ List.replicate (3 - ([kN t, rvD w].length + 1)) SL.no)) = [bkS B, .val (kN t), .val (rvD w)] from rfl]
  have hz : (2000 : Nat) ≤ sizeLine := size_big (by decide)
  have e : (mPutF 0 ["Book"] "rows" (mV 1) (mV 2)) [bkS B, .val (kN t), .val (rvD w)] = .nx [bkS (putB B t w), .val (kN t), .val (rvD w)] := by
    unfold mPutF onE
    rw [show (mV 2) [bkS B, .val (kN t), .val (rvD w)] = .ok (.fz (rvD w)) from rfl]
    dsimp only [EV.fr_fz]
    rw [show ([bkS B, .val (kN t), .val (rvD w)] : DL.Env).getD 0 .no = bkS B from rfl, fldS]
    dsimp only
    rw [show (mV 1) [bkS B, .val (kN t), .val (rvD w)] = .ok (.fz (kN t)) from rfl]
    show (if isKeyD true (kN t) = true ∧ (bkD B).length < sizeLine then _ else _) = _
    rw [if_pos ⟨keN.ok t, by rw [kvsB_length]; omega⟩, dstore_kvsB keN]
    rfl
  rw [e]
  rfl
theorem setIO_go {i : Nat} {mk mv : DL.Env → Rz EV} {env : DL.Env} {B : BK} {t : List Nat} {w : RV} {a : EV} (hi : env.getD i .no = bkT B) (hv : mv env = .ok a) (ha : a.fr = .fz (rvD w)) (hk : mk env = .ok (.fz (kN t))) (hB : B.length ≤ 1000) :
    (mSetIO "Book" F_Book_setitem i mk mv) env = .nx (env.set i (bkT (putB B t w))) := by
  unfold mSetIO onE
  rw [hv]
  dsimp only
  rw [ha]
  have ht : treAt "Book" i env = some (false, bkF B) := by
    unfold treAt
    rw [hi]
    rfl
  rw [ht]
  dsimp only
  rw [hk]
  dsimp only
  rw [set_run B t w hB]
theorem put_keys {κ α : Type} [DecidableEq κ] (f : List (κ × α)) (x : κ) (w : α) : (putB f x w).map (·.1) = if x ∈ f.map (·.1) then f.map (·.1) else f.map (·.1) ++ [x] := by
  unfold putB
  rw [getB_any]
  by_cases h : x ∈ f.map (·.1)
  · have : (getB f x).isSome = true := by
      cases hg : getB f x with
      | some _ => rfl
      | none => exact absurd h (getB_none.mp hg)
    rw [if_pos this, if_pos h, List.map_map]
    refine List.map_congr_left fun p _ => ?_
    show (if p.1 = x then (p.1, w) else p).1 = p.1
    split <;> rfl
  · have : (getB f x).isSome = false := by rw [getB_none.mpr h]; rfl
    rw [this, if_neg (by simp), if_neg h, List.map_append]
    rfl
def dropB {κ α : Type} [DecidableEq κ] (f : List (κ × α)) (x : κ) : List (κ × α) := f.filter fun p => !decide (p.1 = x)
theorem ddrop_kvsB (B : BK) (t : List Nat) : ddrop (bkD B) (kN t) = bkD (dropB B t) := by
  unfold ddrop bkD kvsB dropB
  rw [List.filter_map]
  congr 1
  refine List.filter_congr fun p _ => ?_
  show (!keyEq (kN p.1) (kN t)) = _
  rw [keN.eq]
theorem drop_keys {κ α : Type} [DecidableEq κ] (f : List (κ × α)) (x : κ) : (dropB f x).map (·.1) = (f.map (·.1)).filter fun y => !decide (y = x) := by
  unfold dropB
  rw [List.filter_map]
  rfl
theorem drop_run (B : BK) (t : List Nat) (h : (getB B t).isSome = true) : F_Book_drop (bkF B) [kN t] = .ok .non (bkF (dropB B t)) := by
  unfold F_Book_drop runT b_Book_drop
  rw [show (SL.tre true (.ins "Book" (bkF B)) :: ([kN t].map SL.val ++ List.replicate (2 - ([kN t].length + 1)) SL.no)) = [bkS B, .val (kN t)] from rfl]
  have hf : (mFldK 0 ["Book"] "rows") [bkS B, .val (kN t)] = .ok (.ow false (.dct true (bkD B))) := by
    unfold mFldK
    rw [show ([bkS B, .val (kN t)] : DL.Env).getD 0 .no = bkS B from rfl, fldS]
  have ht : (mB (m2 (mV 1) (mFldK 0 ["Book"] "rows") opNi)) [bkS B, .val (kN t)] = .ok false := by
    have := ni_kvsB (g := rvD) keN B t (a := .fz (kN t)) (b := .ow false (.dct true (bkD B))) (l := false) rfl rfl
    rw [h] at this
    exact mB_go (m2_go (a := .fz (kN t)) rfl hf this)
  rw [seq_ok (a := mIfS _ _ _) ((ifF ht).trans rfl)]
  have e : (mDelFK 0 ["Book"] "rows" (mV 1)) [bkS B, .val (kN t)] = .nx [bkS (dropB B t), .val (kN t)] := by
    unfold mDelFK
    rw [show ([bkS B, .val (kN t)] : DL.Env).getD 0 .no = bkS B from rfl, fldS]
    dsimp only
    rw [show (mV 1) [bkS B, .val (kN t)] = .ok (.fz (kN t)) from rfl]
    dsimp only
    rw [if_pos ⟨keN.ok t, by rw [dfind_kvsB keN, Option.isSome_map]; exact h⟩, ddrop_kvsB]
    rfl
  rw [e]
  rfl
theorem callT_go {i : Nat} {ma : DL.Env → Rz EV} {env : DL.Env} {B : BK} {t : List Nat} (hi : env.getD i .no = bkT B) (hk : ma env = .ok (.fz (kN t))) (h : (getB B t).isSome = true) : (mCallT "Book" (noFldT "drop") F_Book_drop 1 i (mCons ma mNil)) env = .ok .non (env.set i (bkT (dropB B t))) := by
  unfold mCallT
  have ht : treAt "Book" i env = some (false, bkF B) := by
    unfold treAt
    rw [hi]
    rfl
  rw [ht]
  dsimp only
  rw [if_pos (show noFldT "drop" (bkF B) = true from rfl)]
  have : (mCons ma mNil) env = .ok [.fz (kN t)] := by rw [mCons_e, hk]; rfl
  rw [this]
  show (match (allFz [EV.fz (kN t)]) with
    | some ds => if ds.length = 1 then backT "Book" i false env (F_Book_drop (bkF B) ds) else .stuck
    | none => .stuck) = _
  show (if ([kN t] : List D).length = 1 then backT "Book" i false env (F_Book_drop (bkF B) [kN t]) else .stuck) = _
  rw [if_pos (show ([kN t] : List D).length = 1 from rfl), drop_run B t h]
  rfl
end LW.BT
namespace LW.BT
open PySem L2 DL
open LW.Cx0
def fitB (t P : List Nat) : Bool := decide (P.reverse.take t.length = t)
def PileD (P : List Nat) (d : D) : Prop := d = kN P ∨ d = .lst (natD P)
theorem PileD.list {P : List Nat} {d : D} (h : PileD P d) : gList [.fz d] = .ok (.ow true (.lst (natD P))) := by
  rcases h with rfl | rfl <;> rfl
theorem natD_len (P : List Nat) : (natD P).length = P.length := by simp [natD]
theorem natD_rev (P : List Nat) : (natD P).reverse = natD P.reverse := by simp [natD]
theorem natD_take (P : List Nat) (n : Nat) : (natD P).take n = natD (P.take n) := by simp [natD]
theorem ev_fits {t P : List Nat} {d : D} (hd : PileD P d) (ht : t.length ≤ 1000) (hP : P.length ≤ 1000) : F_Book_fits [kN t, d] = .ok (.fz (.bl (fitB t P))) := by
  unfold F_Book_fits DL.runB b_Book_fits
  rw [show List.map SL.val [kN t, d] ++ List.replicate (2 - [kN t, d].length) SL.no = [.val (kN t), .val d] from rfl]
  have e1 : (mCall (mCons (mV 1) mNil) gList) [.val (kN t), .val d] = .ok (.ow true (.lst (natD P))) := hd.list
  have e2 : (mRev (mCall (mCons (mV 1) mNil) gList)) [.val (kN t), .val d] = .ok (.ow true (.lst (natD P.reverse))) := by
    unfold mRev
    rw [e1]
    show Rz.ok (EV.ow true (.lst (natD P).reverse)) = _
    rw [natD_rev]
  have e3 : (mCall (mCons (mV 0) mNil) gLen) [.val (kN t), .val d] = .ok (.fz (.int (t.length : Nat))) := by
    show Rz.ok (EV.fz (.int ((natD t).length : Nat))) = _
    rw [natD_len]
  have e4 : (mSl (mRev (mCall (mCons (mV 1) mNil) gList)) none (some (mCall (mCons (mV 0) mNil) gLen))) [.val (kN t), .val d] = .ok (.ow true (.lst (natD (P.reverse.take t.length)))) := by
    rw [mSl_e, e2]
    simp only [Rz.ok_bind, mPart_none, mPart_some, e3]
    show Rz.ok (EV.ow true (.lst (cutD (natD P.reverse) none (some ((t.length : Nat) : Int))))) = _
    rw [cut_take, natD_take]
  have e5 : (mCall (mCons (mSl (mRev (mCall (mCons (mV 1) mNil) gList)) none (some (mCall (mCons (mV 0) mNil) gLen))) mNil) gTuple) [.val (kN t), .val d] = .ok (.fz (kN (P.reverse.take t.length))) := by
    simp only [mCall_e, mCons_e, mNil_e, e4, Rz.ok_bind, EV.fr_new, OW.d_lst]
    rfl
  have e6 : (mCall (mCons (mV 0) mNil) gTuple) [.val (kN t), .val d] = .ok (.fz (kN t)) := rfl
  have hq : eqD (kN (P.reverse.take t.length)) (kN t) = some (fitB t P) := eqD_en eKN (se_kN (by rw [List.length_take, List.length_reverse]; omega)) (se_kN (by omega))
  rw [ret_ok (m2_go e5 e6 (opEq_d hq))]
theorem ap_fits {t P : List Nat} {d : D} (hd : PileD P d) (ht : t.length ≤ 1000) (hP : P.length ≤ 1000) : appF F_Book_fits [.fz (kN t), .fz d] = .ok (.fz (.bl (fitB t P))) := appF_two (ev_fits hd ht hP)
def stepB (P : List Nat) (best : Option (List Nat)) (t : List Nat) : Option (List Nat) := if fitB t P = true ∧ (best = none ∨ ∃ b, best = some b ∧ b.length < t.length) then some t else best
def longB (P : List Nat) (R : List (List Nat)) : Option (List Nat) := R.foldl (stepB P) none
def optK : Option (List Nat) → D
  | none => .non
  | some t => kN t
theorem long_mem {P : List Nat} : ∀ {R : List (List Nat)} {b t : Option (List Nat)}, R.foldl (stepB P) b = t → ∀ x, t = some x → x ∈ R ∨ b = some x
  | [], b, t, h, x, e => .inr (by rw [← e, ← h]; rfl)
  | r :: R, b, t, h, x, e => by
    rcases long_mem (R := R) h x e with m | m
    · exact .inl (.tail _ m)
    · unfold stepB at m
      split at m
      · cases m; exact .inl (.head _)
      · exact .inr m
theorem longB_mem {P : List Nat} {R : List (List Nat)} {x : List Nat} (h : longB P R = some x) : x ∈ R := (long_mem (t := longB P R) rfl x h).elim id fun z => by cases z
theorem tst_step {P : List Nat} {best : Option (List Nat)} {t : List Nat} {m1 m2' m3 : DL.Env → Rz Bool} {env : DL.Env} (h1 : m1 env = .ok (fitB t P)) (h2 : m2' env = .ok best.isNone) (h3 : ∀ b, best = some b → m3 env = .ok (decide (b.length < t.length))) :
    (mAnd m1 (mOr m2' m3)) env = .ok (decide (fitB t P = true ∧ (best = none ∨ ∃ b, best = some b ∧ b.length < t.length))) := by
  rw [mAnd_e, h1]
  simp only [Rz.ok_bind]
  cases hf : fitB t P with
  | false => simp
  | true =>
    simp only [if_true, mOr_e, h2, Rz.ok_bind]
    cases best with
    | none => simp
    | some b =>
      simp only [Option.isNone_some, Bool.false_eq_true, if_false, h3 b rfl]
      congr 1
      rw [decide_eq_decide]
      simp
theorem gt_len {i j : Nat} {env : DL.Env} {t b : List Nat} (hi : env.getD i .no = .val (kN t)) (hj : env.getD j .no = .val (kN b)) : (mB (m2 (mCall (mCons (mV i) mNil) gLen) (mCall (mCons (mV j) mNil) gLen) opGt)) env = .ok (decide (b.length < t.length)) := by
  have h1 : (mCall (mCons (mV i) mNil) gLen) env = .ok (.fz (.int (t.length : Nat))) := by
    simp only [mCall_e, mCons_e, mNil_e, mV_e, hi, rdSlot_val, Rz.ok_bind, EV.fr_fz]
    show Rz.ok (EV.fz (.int ((natD t).length : Nat))) = _
    rw [natD_len]
  have h2 : (mCall (mCons (mV j) mNil) gLen) env = .ok (.fz (.int (b.length : Nat))) := by
    simp only [mCall_e, mCons_e, mNil_e, mV_e, hj, rdSlot_val, Rz.ok_bind, EV.fr_fz]
    show Rz.ok (EV.fz (.int ((natD b).length : Nat))) = _
    rw [natD_len]
  have h3 : opGt (.fz (.int (t.length : Nat))) (.fz (.int (b.length : Nat))) = .ok (.fz (.bl (decide (((b.length : Nat) : Int) < (t.length : Nat))))) := rfl
  rw [mB_go (m2_go h1 h2 h3)]
  congr 1
  rw [decide_eq_decide]
  omega
theorem is_none {i : Nat} {env : DL.Env} {o : Option (List Nat)} (hi : env.getD i .no = .val (optK o)) : (mB (m2 (mV i) (mC .non) opIs)) env = .ok o.isNone := by
  have h1 : (mV i) env = .ok (.fz (optK o)) := by rw [mV_e, hi]; rfl
  refine mB_go (m2_go h1 (mC_e _ _) ?_)
  cases o <;> rfl
theorem ev_match {B : BK} {P : List Nat} {d : D} (hd : PileD P d) (hB : ∀ p ∈ B, p.1.length ≤ 1000) (hP : P.length ≤ 1000) : F_Book_match [bkV B, d] = .ok (.fz (optK (longB P (B.map (·.1))))) := by
  unfold F_Book_match DL.runB b_Book_match
  rw [show List.map SL.val [bkV B, d] ++ List.replicate (4 - [bkV B, d].length) SL.no = [.val (bkV B), .val d, .no, .no] from rfl]
  rw [seq_ok (show (mSetF 2 (mC .non)) _ = .nx [.val (bkV B), .val d, .val (optK none), .no] from rfl)]
  have hit : (mItems (mFld ["Book"] "rows" (mV 0))) [.val (bkV B), .val d, .val (optK none), .no] = .ok ((B.map (·.1)).map kN) := by
    have hf : (mFld ["Book"] "rows" (mV 0)) [.val (bkV B), .val d, .val (optK none), .no] = .ok (.fz (.dct true true (bkD B))) := fld_go (a := .fz (bkV B)) rfl rfl rfl
    show ((mFld ["Book"] "rows" (mV 0)) _ >>= fun a => frD a >>= items) = _
    rw [hf]
    show Rz.ok ((bkD B).map (·.1)) = _
    rw [List.map_map]
    show Rz.ok ((B.map fun p => (kN p.1, rvD p.2)).map (·.1)) = _
    rw [List.map_map]
    rfl
  obtain ⟨w3, e⟩ := for_ls (p := pName 3) (b := l1_Book_match) (J := SL) kN (fun done j => [.val (bkV B), .val d, .val (optK (done.foldl (stepB P) none)), j]) (B.map (·.1)) .no fun i t j hi => by
    have hm := List.mem_of_getElem? hi
    obtain ⟨p, hp, rfl⟩ := List.mem_map.mp hm
    refine ⟨_, .val (kN p.1), rfl, .inl ?_⟩
    generalize hbest : ((B.map (·.1)).take i).foldl (stepB P) none = best
    have hft : (mB (mFn F_Book_fits (mCons (mV 3) (mCons (mV 1) mNil)) 2)) [.val (bkV B), .val d, .val (optK best), .val (kN p.1)] = .ok (fitB p.1 P) := mB_go (call2 (a := .fz (kN p.1)) (b := .fz d) rfl rfl (ap_fits hd (hB p hp) hP))
    have ht := tst_step hft (is_none (i := 2) (o := best) rfl) (m3 := mB (m2 (mCall (mCons (mV 3) mNil) gLen) (mCall (mCons (mV 2) mNil) gLen) opGt)) fun b hb => by
      subst hb
      exact gt_len rfl rfl
    rw [List.foldl_append, hbest]
    show l1_Book_match [.val (bkV B), .val d, .val (optK best), .val (kN p.1)] = .nx [.val (bkV B), .val d, .val (optK (stepB P best p.1)), .val (kN p.1)]
    unfold l1_Book_match stepB
    by_cases h : fitB p.1 P = true ∧ (best = none ∨ ∃ b, best = some b ∧ b.length < p.1.length)
    · rw [decide_eq_true h] at ht
      rw [ifT ht, if_pos h]
      rfl
    · rw [decide_eq_false h] at ht
      rw [ifF ht, if_neg h]
  rw [seq_ok ((for_ok hit).trans e)]
  rfl
end LW.BT
namespace LW.K33
open PySem L2 DL
open LW.Cx0
open LW.BT
theorem at_natD {P : List Nat} {i : Int} {k : Nat} (hi : i = k) (h : k < P.length) : atI (natD P) i = some (.int (P.getD k 0 : Nat)) := at_gd P i k hi h
theorem all_fit {t P : List Nat} (h : t.length ≤ P.length) : ((List.range t.length).all fun k => decide (t.getD k 0 = P.getD (P.length - 1 - k) 0)) = fitB t P := by
  unfold fitB
  rw [Bool.eq_iff_iff, List.all_eq_true, decide_eq_true_eq]
  constructor
  · intro hk
    refine List.ext_getElem? fun k => ?_
    by_cases hlt : k < t.length
    · have := of_decide_eq_true (hk k (List.mem_range.mpr hlt))
      rw [List.getElem?_take, if_pos hlt, List.getElem?_reverse (by omega)]
      have e1 : P[P.length - 1 - k]? = some (P.getD (P.length - 1 - k) 0) := by
        rw [List.getD_eq_getElem?_getD, List.getElem?_eq_getElem (by omega)]; rfl
      have e2 : t[k]? = some (t.getD k 0) := by
        rw [List.getD_eq_getElem?_getD, List.getElem?_eq_getElem hlt]; rfl
      rw [e1, e2, this]
    · rw [List.getElem?_take, if_neg hlt, List.getElem?_eq_none (by omega)]
  · intro e k hk
    have hlt := List.mem_range.mp hk
    rw [decide_eq_true_eq]
    have h1 : t[k]? = P[P.length - 1 - k]? := by
      rw [← e, List.getElem?_take]
      rw [← e] at hlt
      have : k < t.length := by
        rw [List.length_take] at hlt; omega
      rw [if_pos (by omega), List.getElem?_reverse (by omega)]
    rw [List.getD_eq_getElem?_getD, List.getD_eq_getElem?_getD, h1]
theorem long_fit {t P : List Nat} (h : P.length < t.length) : fitB t P = false := by
  unfold fitB
  rw [decide_eq_false]
  intro e
  have := congrArg List.length e
  rw [List.length_take, List.length_reverse] at this
  omega
theorem ev_lfits {t P : List Nat} (ht : t.length ≤ 1000) (hP : P.length ≤ 1000) : F__law_fits [kN t, .lst (natD P)] = .ok (.fz (.bl (fitB t P))) := by
  unfold F__law_fits DL.runB b__law_fits
  rw [show List.map SL.val [kN t, D.lst (natD P)] ++ List.replicate (3 - [kN t, D.lst (natD P)].length) SL.no = [.val (kN t), .val (.lst (natD P)), .no] from rfl]
  have l0 : (mCall (mCons (mV 0) mNil) gLen) [.val (kN t), .val (.lst (natD P)), .no] = .ok (.fz (.int (t.length : Nat))) := by
    show Rz.ok (EV.fz (.int ((natD t).length : Nat))) = _
    rw [natD_len]
  have l1 : ∀ v2, (mCall (mCons (mV 1) mNil) gLen) [.val (kN t), .val (.lst (natD P)), v2] = .ok (.fz (.int (P.length : Nat))) := fun v2 => by
    show Rz.ok (EV.fz (.int ((natD P).length : Nat))) = _
    rw [natD_len]
  have c1 : (mB (m2 (mCall (mCons (mV 0) mNil) gLen) (mCall (mCons (mV 1) mNil) gLen) opGt)) [.val (kN t), .val (.lst (natD P)), .no] = .ok (decide (P.length < t.length)) := by
    have h3 : opGt (.fz (.int (t.length : Nat))) (.fz (.int (P.length : Nat))) = .ok (.fz (.bl (decide (((P.length : Nat) : Int) < (t.length : Nat))))) := rfl
    rw [mB_go (m2_go l0 (l1 _) h3)]
    congr 1
    rw [decide_eq_decide]
    omega
  by_cases h : P.length < t.length
  · rw [decide_eq_true h] at c1
    rw [seq_ret (ifT c1), long_fit h]
  · rw [decide_eq_false h] at c1
    rw [seq_ok (a := mIfS _ _ _) ((ifF c1).trans rfl)]
    have e1 : (mLc (mRng1 (mCons (mCall (mCons (mV 0) mNil) gLen) mNil)) (pName 2) mYes e1__law_fits [2]) [.val (kN t), .val (.lst (natD P)), .no] = .ok (.ow true (.lst (((List.range t.length).map fun k => decide (t.getD k 0 = P.getD (P.length - 1 - k) 0)).map .bl))) := by
      rw [List.map_map]
      refine mLc_all (i := 2) (en := fun (k : Nat) => D.int k) (rng1_ok (n := t.length) l0 (by omega)) (fun k hk => ⟨.fz (.bl (decide (t.getD k 0 = P.getD (P.length - 1 - k) 0))), ?_, rfl⟩) (size_big (by rw [List.length_range]; omega))
      have hk := List.mem_range.mp hk
      have a0 : (m2 (mV 0) (mV 2) opIx) [.val (kN t), .val (.lst (natD P)), .val (.int (k : Nat))] = .ok (.fz (.int (t.getD k 0 : Nat))) := by
        refine m2_go (a := .fz (kN t)) (b := .fz (.int (k : Nat))) rfl rfl ?_
        show opIx (.fz (.tup (natD t))) _ = _
        rw [opIx_e, ixD_tup, at_natD rfl hk]; rfl
      have a1 : (m2 (m2 (mCall (mCons (mV 1) mNil) gLen) (mC (.int 1)) opSub) (mV 2) opSub) [.val (kN t), .val (.lst (natD P)), .val (.int (k : Nat))] = .ok (.fz (.int (((P.length : Nat) : Int) - 1 - (k : Nat)))) := m2_go (b := .fz (.int (k : Nat))) (m2_go (l1 _) (mC_e _ _) (sub_ints _ _)) rfl (sub_ints _ _)
      have a2 : (m2 (mV 1) (m2 (m2 (mCall (mCons (mV 1) mNil) gLen) (mC (.int 1)) opSub) (mV 2) opSub) opIx) [.val (kN t), .val (.lst (natD P)), .val (.int (k : Nat))] = .ok (.fz (.int (P.getD (P.length - 1 - k) 0 : Nat))) := by
        refine m2_go (a := .fz (.lst (natD P))) rfl a1 ?_
        rw [opIx_e, ixD_lst, at_natD (k := P.length - 1 - k) (by omega) (by omega)]; rfl
      show e1__law_fits [.val (kN t), .val (.lst (natD P)), .val (.int (k : Nat))] = _
      unfold e1__law_fits
      refine (m2_go a0 a2 (opEq_int _ _)).trans ?_
      congr 3
      rw [decide_eq_decide]
      omega
    have e2 : (mCall (mCons (mLc (mRng1 (mCons (mCall (mCons (mV 0) mNil) gLen) mNil)) (pName 2) mYes e1__law_fits [2]) mNil) gAll) [.val (kN t), .val (.lst (natD P)), .no] = .ok (.fz (.bl (fitB t P))) := by
      simp only [mCall_e, mCons_e, mNil_e, e1, Rz.ok_bind, EV.fr_new, OW.d_lst, gAll_map]
      rw [← all_fit (show t.length ≤ P.length by omega), List.all_map]
      rfl
    rw [ret_ok e2]
theorem ap_lfits {t P : List Nat} (ht : t.length ≤ 1000) (hP : P.length ≤ 1000) : appF F__law_fits [.fz (kN t), .fz (.lst (natD P))] = .ok (.fz (.bl (fitB t P))) := appF_two (ev_lfits ht hP)
theorem ev_long {R : List (List Nat)} {P : List Nat} (hR : ∀ t ∈ R, t.length ≤ 1000) (hP : P.length ≤ 1000) : F__law_longest [.lst (R.map kN), .lst (natD P)] = .ok (.fz (optK (longB P R))) := by
  unfold F__law_longest DL.runB b__law_longest
  rw [show List.map SL.val [D.lst (R.map kN), D.lst (natD P)] ++ List.replicate (4 - [D.lst (R.map kN), D.lst (natD P)].length) SL.no = [.val (.lst (R.map kN)), .val (.lst (natD P)), .no, .no] from rfl]
  rw [seq_ok (show (mSetF 2 (mC .non)) _ = .nx [.val (.lst (R.map kN)), .val (.lst (natD P)), .val (optK none), .no] from rfl)]
  obtain ⟨w3, e⟩ := for_ls (p := pName 3) (b := l1__law_longest) (J := SL) kN (fun done j => [.val (.lst (R.map kN)), .val (.lst (natD P)), .val (optK (done.foldl (stepB P) none)), j]) R .no fun i t j hi => by
    have hm := List.mem_of_getElem? hi
    refine ⟨_, .val (kN t), rfl, .inl ?_⟩
    generalize hbest : (R.take i).foldl (stepB P) none = best
    have hft : (mB (mFn F__law_fits (mCons (mV 3) (mCons (mV 1) mNil)) 2)) [.val (.lst (R.map kN)), .val (.lst (natD P)), .val (optK best), .val (kN t)] = .ok (fitB t P) := mB_go (call2 (a := .fz (kN t)) (b := .fz (.lst (natD P))) rfl rfl (ap_lfits (hR t hm) hP))
    have ht := tst_step hft (is_none (i := 2) (o := best) rfl) (m3 := mB (m2 (mCall (mCons (mV 3) mNil) gLen) (mCall (mCons (mV 2) mNil) gLen) opGt)) fun b hb => by
      subst hb
      exact gt_len rfl rfl
    rw [List.foldl_append, hbest]
    show l1__law_longest [.val (.lst (R.map kN)), .val (.lst (natD P)), .val (optK best), .val (kN t)] = .nx [.val (.lst (R.map kN)), .val (.lst (natD P)), .val (optK (stepB P best t)), .val (kN t)]
    unfold l1__law_longest stepB
    by_cases h : fitB t P = true ∧ (best = none ∨ ∃ b, best = some b ∧ b.length < t.length)
    · rw [decide_eq_true h] at ht
      rw [ifT ht, if_pos h]
      rfl
    · rw [decide_eq_false h] at ht
      rw [ifF ht, if_neg h]
  rw [List.foldl_nil] at e
  rw [seq_ok ((for_ok (it := mItems (mV 0)) (ds := R.map kN) rfl).trans e)]
  rfl
section
variable (ds : List Nat)
def pileR : List Nat := 0 :: (List.range (gd ds 0 % 14)).map fun k => 1 + gd ds (2 + k) % 4
def cutR (k : Nat) : List Nat := (pileR ds).reverse.take (1 + gd ds (16 + 3 * k) % 12)
def topsR (k : Nat) : List Nat := if gd ds (17 + 3 * k) % 3 = 0 then (cutR ds k).set (gd ds (18 + 3 * k) % (cutR ds k).length) 7 else cutR ds k
def bookR : Nat → BK
  | 0 => []
  | k + 1 => putB (bookR k) (topsR ds k) (["a"], "x")
end
theorem pile_len (ds : List Nat) : 1 ≤ (pileR ds).length ∧ (pileR ds).length ≤ 14 := by
  unfold pileR
  rw [List.length_cons, List.length_map, List.length_range]
  have := Nat.mod_lt (gd ds 0) (show 0 < 14 by decide)
  omega
theorem pile_le (ds : List Nat) : ∀ n ∈ pileR ds, n ≤ 7 := fun n hn => by
  unfold pileR at hn
  rcases List.mem_cons.mp hn with rfl | hn
  · decide
  · obtain ⟨k, _, rfl⟩ := List.mem_map.mp hn
    have := Nat.mod_lt (gd ds (2 + k)) (show 0 < 4 by decide)
    omega
theorem cut_len (ds : List Nat) (k : Nat) : 1 ≤ (cutR ds k).length ∧ (cutR ds k).length ≤ 12 := by
  have := pile_len ds
  have := Nat.mod_lt (gd ds (16 + 3 * k)) (show 0 < 12 by decide)
  unfold cutR
  rw [List.length_take, List.length_reverse]
  omega
theorem tops_facts (ds : List Nat) (k : Nat) : (topsR ds k).length ≤ 12 ∧ ∀ n ∈ topsR ds k, n ≤ 7 := by
  have hc : ∀ n ∈ cutR ds k, n ≤ 7 := fun n hn => pile_le ds n (List.mem_reverse.mp (List.mem_of_mem_take hn))
  unfold topsR
  split
  · refine ⟨by rw [List.length_set]; exact (cut_len ds k).2, fun n hn => ?_⟩
    rcases List.mem_or_eq_of_mem_set hn with hn | rfl
    · exact hc n hn
    · decide
  · exact ⟨(cut_len ds k).2, hc⟩
theorem put_len {κ α : Type} [DecidableEq κ] (f : List (κ × α)) (x : κ) (w : α) : (putB f x w).length ≤ f.length + 1 := by
  unfold putB
  split
  · rw [List.length_map]; omega
  · rw [List.length_append]; exact Nat.le_refl _
theorem book_facts (ds : List Nat) : ∀ k, (bookR ds k).length ≤ k ∧ ((bookR ds k).map (·.1)).Nodup ∧ ∀ t ∈ (bookR ds k).map (·.1), t.length ≤ 12 ∧ ∀ n ∈ t, n ≤ 7
  | 0 => ⟨Nat.le_refl _, by simp [bookR], by simp [bookR]⟩
  | k + 1 => by
    obtain ⟨h1, h2, h3⟩ := book_facts ds k
    refine ⟨Nat.le_trans (put_len _ _ _) (by omega), ?_, ?_⟩
    · unfold bookR
      rw [put_keys]
      split
      · exact h2
      · rename_i hn
        rw [List.nodup_append]
        exact ⟨h2, by simp, fun a ha b hb e => hn (by
          rw [List.mem_singleton.mp hb] at e
          rw [← e]; exact ha)⟩
    · unfold bookR
      rw [put_keys]
      split
      · exact h3
      · intro t ht
        rcases List.mem_append.mp ht with ht | ht
        · exact h3 t ht
        · rw [List.mem_singleton.mp ht]; exact tops_facts ds k
end LW.K33
namespace LW.K33
open PySem L2 DL
open LW.Cx0
open LW.BT
abbrev keys (B : BK) : List (List Nat) := B.map (·.1)
abbrev E3 (ns : List Int) (ds P : List Nat) (B : BK) (v5 v6 v7 v8 v9 v10 v11 : SL) : DL.Env := [.val (.scr ns), .val (.lst (natD ds)), .val (.lst (natD P)), .val (.lst (natD P.reverse)), bkT B, v5, v6, v7, v8, v9, v10, v11]
section
variable {ns : List Int} {ds P : List Nat} {B : BK} {v5 v6 v7 v8 v9 v10 v11 : SL} {k : Nat}
theorem row_val (env : DL.Env) : (mTup (mCons (mMake "Signs" 1 I_Signs_init (mCons (mLst (mCons (mC (.str "a")) mNil)) mNil)) (mCons (mC (.str "x")) mNil))) env = .ok (.fz (rvD (["a"], "x"))) := by
  have hz : (2 : Nat) ≤ sizeLine := size_big (by decide)
  have h1 : (mLst (mCons (mC (.str "a")) mNil)) env = .ok (.ow true (.lst (stD ["a"]))) := by
    simp only [mLst_e, mCons_e, mNil_e, mC_e, Rz.ok_bind, EV.fr_fz, allFz_fz, allFz_nil, Option.map_some, orStuck_some, List.length_cons, List.length_nil]
    rw [if_pos (by omega)]
    rfl
  have h2 : (mMake "Signs" 1 I_Signs_init (mCons (mLst (mCons (mC (.str "a")) mNil)) mNil)) env = .ok (.ow true (.ins "Signs" [("words", .tup (stD ["a"]))])) := by
    have hs := app_signs (a := .fz (.lst (stD ["a"]))) (ws := ["a"]) (.inl rfl) (by decide) (by decide +kernel)
    have e : signsR ["a"] = .ok (.ow true (.ins "Signs" [("words", .tup (stD ["a"]))])) := by
      unfold signsR
      rw [show (["a"] : List Str).find? (fun w => !goodS w) = none by decide +kernel]
      dsimp only
      rw [show DS.sortU ["a"] = (["a"] : List Str) by decide +kernel]
    simp only [mMake_e, mCons_e, mNil_e, h1, Rz.ok_bind, EV.fr_new, OW.d_lst, List.length_cons, List.length_nil, if_true]
    rw [hs, e]
  simp only [mTup_e, mCons_e, mNil_e, h2, mC_e, Rz.ok_bind, EV.fr_new, EV.fr_fz, OW.d_ins, allFz_fz, allFz_nil, Option.map_some, orStuck_some, List.length_cons, List.length_nil]
  rw [if_pos (by omega)]
  rfl
theorem row_val0 (env : DL.Env) : (mTup (mCons (mMake "Signs" 1 I_Signs_init (mCons (mLst mNil) mNil)) (mCons (mC (.str "")) mNil))) env = .ok (.fz (rvD ([], ""))) := by
  have hz : (2 : Nat) ≤ sizeLine := size_big (by decide)
  have h1 : (mLst mNil) env = .ok (.ow true (.lst (stD []))) := by
    simp only [mLst_e, mNil_e, Rz.ok_bind, allFz_nil, orStuck_some, List.length_nil]
    rw [if_pos (Nat.zero_le _)]
    rfl
  have h2 : (mMake "Signs" 1 I_Signs_init (mCons (mLst mNil) mNil)) env = .ok (.ow true (.ins "Signs" [("words", .tup (stD []))])) := by
    have hs := app_signs (a := .fz (.lst (stD []))) (ws := []) (.inl rfl) (by decide) (by simp)
    have e : signsR [] = .ok (.ow true (.ins "Signs" [("words", .tup (stD []))])) := rfl
    simp only [mMake_e, mCons_e, mNil_e, h1, Rz.ok_bind, EV.fr_new, OW.d_lst, List.length_cons, List.length_nil, if_true]
    rw [hs, e]
  simp only [mTup_e, mCons_e, mNil_e, h2, mC_e, Rz.ok_bind, EV.fr_new, EV.fr_fz, OW.d_ins, allFz_fz, allFz_nil, Option.map_some, orStuck_some, List.length_cons, List.length_nil]
  rw [if_pos (by omega)]
  rfl
theorem dr_go (hd : ds.length = 48) {m : DL.Env → Rz EV} {env : DL.Env} {i : Int} {j : Nat} (hi : i = j) (hj : j < 48) (h1 : env.getD 1 .no = .val (.lst (natD ds))) (hm : m env = .ok (.fz (.int i))) : (mCall (mCons (m2 (mV 1) m opIx) mNil) gInt) env = .ok (.fz (.int (gd ds j : Nat))) := by
  have h2 : (m2 (mV 1) m opIx) env = .ok (.fz (.int (gd ds j : Nat))) := by
    refine m2_go (a := .fz (.lst (natD ds))) (by rw [mV_e, h1]; rfl) hm ?_
    rw [opIx_e, ixD_lst, at_gd ds i j hi (by omega)]; rfl
  simp only [mCall_e, mCons_e, mNil_e, h2, Rz.ok_bind, EV.fr_fz]
  rfl
theorem dm_go {n : Nat} (hn : 0 < n) {a : Nat} {m mb : DL.Env → Rz EV} {env : DL.Env} (h1 : m env = .ok (.fz (.int (a : Nat)))) (h2 : mb env = .ok (.fz (.int (n : Nat)))) : (m2 m mb opMod) env = .ok (.fz (.int ((a % n : Nat) : Int))) := m2_go h1 h2 (mod_nat a n hn)
theorem ixN_nat {n k : Nat} (h : k < n) : ixN n (k : Int) = some k := by
  unfold ixN
  rw [if_pos (by omega), if_pos (by omega)]; rfl
theorem setI_go {i : Nat} {L : List Nat} {f x : Nat} {mk mv : DL.Env → Rz EV} {env : DL.Env} (he : env.getD i .no = .own (.lst (natD L))) (hk : mk env = .ok (.fz (.int (f : Nat)))) (hv : mv env = .ok (.fz (.int (x : Nat)))) (hf : f < L.length) : mSetI i mk mv env = .nx (env.set i (.own (.lst (natD (L.set f x))))) := by
  have hix : ixN (natD L).length (f : Int) = some f := ixN_nat (by rw [natD_len]; exact hf)
  unfold mSetI onE
  rw [hv]
  dsimp only [EV.fr_fz]
  rw [he]
  show onE mk (setI' i (natD L) (.int (x : Nat))) env = _
  unfold onE
  rw [hk]
  show (match ixN (natD L).length (f : Int) with
    | some j => Out.nx (env.set i (.own (.lst ((natD L).set j (.int (x : Nat))))))
    | none => .stuck) = _
  rw [hix]
  dsimp only
  rw [show (natD L).set f (.int (x : Nat)) = natD (L.set f x) from by rw [natD, natD, List.map_set]]
theorem ni_rows {t : List Nat} {R : List (List Nat)} {m1 m2' : DL.Env → Rz EV} {env : DL.Env} {b : EV} (h1 : m1 env = .ok (.fz (kN t))) (h2 : m2' env = .ok b) (hb : b.d = .lst (R.map kN)) (ht : t.length ≤ 1000) (hR : ∀ x ∈ R, x.length ≤ 1000) (hl : R.length ≤ 1000) : (mB (m2 m1 m2' opNi)) env = .ok (!decide (t ∈ R)) :=
  mB_go (m2_go h1 h2 (ni_en eKN (a := .fz (kN t)) rfl hb (se_kN (by omega)) (fun y hy => se_kN (by have := hR y hy; omega)) (by omega)))
theorem turn1 (hd : ds.length = 48) (hk : k < 10) (hP : P = pileR ds) : ∃ w7, l1_law (E3 ns ds P (bookR ds k) (.own (.lst ((keys (bookR ds k)).map kN))) (.val (.int (k : Nat))) v7 v8 v9 v10 v11) = .nx (E3 ns ds P (bookR ds (k + 1)) (.own (.lst ((keys (bookR ds (k + 1))).map kN))) (.val (.int (k : Nat))) w7 v8 v9 v10 v11) := by
  obtain ⟨b1, b2, b3⟩ := book_facts ds k
  have hz : (1000 : Nat) ≤ sizeLine := size_big (by decide)
  have hcl := cut_len ds k
  refine ⟨.val (.lst (natD (topsR ds k))), ?_⟩
  unfold l1_law
  have hmul : ∀ (v7 : SL), (m2 (mC (.int 3)) (mV 6) opMul) (E3 ns ds P (bookR ds k) (.own (.lst ((keys (bookR ds k)).map kN))) (.val (.int (k : Nat))) v7 v8 v9 v10 v11) = .ok (.fz (.int (3 * (k : Int)))) := fun v7 => m2_go (b := .fz (.int (k : Nat))) (mC_e _ _) rfl (mul_small (by omega))
  have hidx : ∀ (c : Int) (v7 : SL), (m2 (mC (.int c)) (m2 (mC (.int 3)) (mV 6) opMul) opAdd) (E3 ns ds P (bookR ds k) (.own (.lst ((keys (bookR ds k)).map kN))) (.val (.int (k : Nat))) v7 v8 v9 v10 v11) = .ok (.fz (.int (c + 3 * (k : Int)))) := fun c v7 => m2_go (mC_e _ _) (hmul v7) (opAdd_int _ _)
  have hlen : (m2 (mC (.int 1)) (m2 (mCall (mCons (m2 (mV 1) (m2 (mC (.int 16)) (m2 (mC (.int 3)) (mV 6) opMul) opAdd) opIx) mNil) gInt) (mC (.int 12)) opMod) opAdd) (E3 ns ds P (bookR ds k) (.own (.lst ((keys (bookR ds k)).map kN))) (.val (.int (k : Nat))) v7 v8 v9 v10 v11) = .ok (.fz (.int ((1 + gd ds (16 + 3 * k) % 12 : Nat) : Int))) := by
    refine (m2_go (mC_e _ _) (dm_go (n := 12) (by decide) (dr_go hd (j := 16 + 3 * k) (by omega) (by omega) rfl (hidx 16 v7)) rfl) (opAdd_int _ _)).trans ?_
    congr 3
  have hcut : (mSl (mV 3) none (some (m2 (mC (.int 1)) (m2 (mCall (mCons (m2 (mV 1) (m2 (mC (.int 16)) (m2 (mC (.int 3)) (mV 6) opMul) opAdd) opIx) mNil) gInt) (mC (.int 12)) opMod) opAdd))) (E3 ns ds P (bookR ds k) (.own (.lst ((keys (bookR ds k)).map kN))) (.val (.int (k : Nat))) v7 v8 v9 v10 v11) = .ok (.ow true (.lst (natD (cutR ds k)))) := by
    rw [mSl_e, show (mV 3) (E3 ns ds P (bookR ds k) (.own (.lst ((keys (bookR ds k)).map kN))) (.val (.int (k : Nat))) v7 v8 v9 v10 v11) = .ok (.fz (.lst (natD P.reverse))) from rfl]
    simp only [Rz.ok_bind, mPart_none, mPart_some, hlen]
    show Rz.ok (EV.ow true (.lst (cutD (natD P.reverse) none (some ((1 + gd ds (16 + 3 * k) % 12 : Nat) : Int))))) = _
    rw [cut_take, natD_take, hP]
    rfl
  rw [seq_ok (setO_ok hcut)]
  simp only [List.set_cons_zero, List.set_cons_succ]
  have hif : (mIfS (mB (m2 (m2 (mCall (mCons (m2 (mV 1) (m2 (mC (.int 17)) (m2 (mC (.int 3)) (mV 6) opMul) opAdd) opIx) mNil) gInt) (mC (.int 3)) opMod) (mC (.int 0)) opEq))
        (mSetI 7 (m2 (mCall (mCons (m2 (mV 1) (m2 (mC (.int 18)) (m2 (mC (.int 3)) (mV 6) opMul) opAdd) opIx) mNil) gInt) (mCall (mCons (mV 7) mNil) gLen) opMod) (mC (.int 7)))
        Out.nx) (E3 ns ds P (bookR ds k) (.own (.lst ((keys (bookR ds k)).map kN))) (.val (.int (k : Nat))) (.own (.lst (natD (cutR ds k)))) v8 v9 v10 v11) = .nx (E3 ns ds P (bookR ds k) (.own (.lst ((keys (bookR ds k)).map kN))) (.val (.int (k : Nat))) (.own (.lst (natD (topsR ds k)))) v8 v9 v10 v11) := by
    have t1 := m2_go (g := opEq) (dm_go (n := 3) (by decide) (dr_go hd (j := 17 + 3 * k) (by omega) (by omega) rfl (hidx 17 (.own (.lst (natD (cutR ds k)))))) (show (mC (.int 3)) _ = _ from rfl)) (mC_e (.int 0) _) (opEq_int _ _)
    have t2 := mB_go t1
    unfold topsR
    by_cases h : gd ds (17 + 3 * k) % 3 = 0
    · rw [decide_eq_true (by omega : ((gd ds (17 + 3 * k) % 3 : Nat) : Int) = 0)] at t2
      rw [ifT t2, if_pos h]
      have hl : (mCall (mCons (mV 7) mNil) gLen) (E3 ns ds P (bookR ds k) (.own (.lst ((keys (bookR ds k)).map kN))) (.val (.int (k : Nat))) (.own (.lst (natD (cutR ds k)))) v8 v9 v10 v11) = .ok (.fz (.int ((cutR ds k).length : Nat))) := by
        show Rz.ok (EV.fz (.int ((natD (cutR ds k)).length : Nat))) = _
        rw [natD_len]
      rw [setI_go (mv := mC (.int 7)) (L := cutR ds k) (f := gd ds (18 + 3 * k) % (cutR ds k).length) (x := 7) rfl (dm_go hcl.1 (dr_go hd (i := 18 + 3 * (k : Int)) (j := 18 + 3 * k) (by omega) (by omega) rfl (hidx 18 _)) hl) rfl (Nat.mod_lt _ hcl.1)]
      rfl
    · rw [decide_eq_false (by omega : ¬ ((gd ds (17 + 3 * k) % 3 : Nat) : Int) = 0)] at t2
      rw [ifF t2, if_neg h]
  rw [seq_ok hif]
  obtain ⟨tf1, tf2⟩ := tops_facts ds k
  have hput := setIO_go (i := 4) (B := bookR ds k) (t := topsR ds k) (w := (["a"], "x")) (mk := mCall (mCons (mV 7) mNil) gTuple) (env := E3 ns ds P (bookR ds k) (.own (.lst ((keys (bookR ds k)).map kN))) (.val (.int (k : Nat))) (.own (.lst (natD (topsR ds k)))) v8 v9 v10 v11) rfl (row_val _) rfl rfl (by omega)
  rw [seq_ok hput]
  simp only [List.set_cons_zero, List.set_cons_succ]
  show (mFrz 7 _) (E3 ns ds P (bookR ds (k + 1)) (.own (.lst ((keys (bookR ds k)).map kN))) (.val (.int (k : Nat))) (.own (.lst (natD (topsR ds k)))) v8 v9 v10 v11) = _
  have hkeys := put_keys (bookR ds k) (topsR ds k) (((["a"] : List Str), ("x" : Str)) : RV)
  have hkeys : keys (bookR ds (k + 1)) = _ := hkeys
  have ht : (mCall (mCons (mV 7) mNil) gTuple) (E3 ns ds P (bookR ds (k + 1)) (.own (.lst ((keys (bookR ds k)).map kN))) (.val (.int (k : Nat))) (.val (.lst (natD (topsR ds k)))) v8 v9 v10 v11) = .ok (.fz (kN (topsR ds k))) := rfl
  have hni := ni_rows (R := keys (bookR ds k)) (m2' := mV 5) (b := .ow false (.lst ((keys (bookR ds k)).map kN))) ht rfl rfl (by omega) (fun x hx => by have := (b3 x hx).1; omega) (by rw [List.length_map]; omega)
  show (mIfS (mB (m2 (mCall (mCons (mV 7) mNil) gTuple) (mV 5) opNi)) (mFrz 7 (mApp 5 (mCall (mCons (mV 7) mNil) gTuple))) Out.nx) (E3 ns ds P (bookR ds (k + 1)) (.own (.lst ((keys (bookR ds k)).map kN))) (.val (.int (k : Nat))) (.val (.lst (natD (topsR ds k)))) v8 v9 v10 v11) = _
  by_cases h : topsR ds k ∈ keys (bookR ds k)
  · rw [decide_eq_true h] at hni
    rw [if_pos h] at hkeys
    rw [hkeys, ifF hni]
  · rw [decide_eq_false h] at hni
    rw [if_neg h] at hkeys
    rw [hkeys, ifT hni]
    show (mApp 5 (mCall (mCons (mV 7) mNil) gTuple)) (E3 ns ds P (bookR ds (k + 1)) (.own (.lst ((keys (bookR ds k)).map kN))) (.val (.int (k : Nat))) (.val (.lst (natD (topsR ds k)))) v8 v9 v10 v11) = _
    rw [app_ok (ds := (keys (bookR ds k)).map kN) rfl ht rfl (by rw [List.length_map, List.length_map]; omega)]
    rw [show (keys (bookR ds k)).map kN ++ [kN (topsR ds k)] = (keys (bookR ds k) ++ [topsR ds k]).map kN from by rw [List.map_append]; rfl]
    rfl
def stepK (P : List Nat) (B : BK) : BK := match longB P (keys B) with
  | some t => dropB B t
  | none => B
structure Bok (B : BK) : Prop where
  nd : (keys B).Nodup
  len : B.length ≤ 20
  le : ∀ t ∈ keys B, t.length ≤ 12
theorem stepK_ok {P : List Nat} {B : BK} (h : Bok B) : Bok (stepK P B) := by
  unfold stepK
  split
  · refine ⟨?_, ?_, fun t ht => ?_⟩
    · unfold keys; rw [drop_keys]; exact h.nd.sublist List.filter_sublist
    · unfold dropB; exact Nat.le_trans (List.length_filter_le _ _) h.len
    · unfold keys at ht; rw [drop_keys] at ht; exact h.le t (List.mem_filter.mp ht).1
  · exact h
theorem turn_l2 {t : List Nat} (ht : t.length ≤ 1000) (hP : P.length ≤ 1000) : l2_law (E3 ns ds P B v5 v6 (.val (kN t)) v8 v9 (.val (.lst (natD P))) v11) = .nx (E3 ns ds P B v5 v6 (.val (kN t)) v8 v9 (.val (.lst (natD P))) v11) := by
  have h1 : (mFn F_Book_fits (mCons (mV 7) (mCons (mV 10) mNil)) 2) (E3 ns ds P B v5 v6 (.val (kN t)) v8 v9 (.val (.lst (natD P))) v11) = .ok (.fz (.bl (fitB t P))) := call2 (a := .fz (kN t)) (b := .fz (.lst (natD P))) rfl rfl (ap_fits (.inr rfl) ht hP)
  have h2 : (mFn F__law_fits (mCons (mV 7) (mCons (mV 2) mNil)) 2) (E3 ns ds P B v5 v6 (.val (kN t)) v8 v9 (.val (.lst (natD P))) v11) = .ok (.fz (.bl (fitB t P))) := call2 (a := .fz (kN t)) (b := .fz (.lst (natD P))) rfl rfl (ap_lfits ht hP)
  have h3 : (mFn (F__law_same 8) (mCons (mFn F_Book_fits (mCons (mV 7) (mCons (mV 10) mNil)) 2) (mCons (mFn F__law_fits (mCons (mV 7) (mCons (mV 2) mNil)) 2) mNil)) 2) (E3 ns ds P B v5 v6 (.val (kN t)) v8 v9 (.val (.lst (natD P))) v11) = .ok (.fz (.bl true)) := call2 h1 h2 (same8 (d := .bl (fitB t P)) trivial)
  exact ifF (by unfold mNot; rw [mB_go h3]; rfl)
theorem sm_go {ma mb : DL.Env → Rz EV} {env : DL.Env} {a b : EV} {d : D} (h1 : ma env = .ok a) (h2 : mb env = .ok b) (ha : a.fr = .fz d) (hb : b.fr = .fz d) (hp : PL 8 d) : (mNot (mB (mFn (F__law_same 8) (mCons ma (mCons mb mNil)) 2))) env = .ok false := by
  have : (mFn (F__law_same 8) (mCons ma (mCons mb mNil)) 2) env = .ok (.fz (.bl true)) := call2 h1 h2 (by rw [ha, hb]; exact same8 hp)
  unfold mNot
  rw [mB_go this]
  rfl
theorem or_go {a b : DL.Env → Rz Bool} {env : DL.Env} (h : a env = .ok false) : mOr a b env = b env := by unfold mOr; rw [h]; rfl
theorem me1 {cl m : Str} {F : Fn} {mo ma : DL.Env → Rz EV} {env : DL.Env} {o a : EV} {r : Rz EV} (h0 : mo env = .ok o) (hi : insOf cl m o.d = true) (h1 : ma env = .ok a) (hF : appF F [o.fr, a.fr] = r) : mMe cl m F 2 mo (mCons ma mNil) env = r := by
  unfold mMe
  rw [h0]
  simp only [Rz.ok_bind, hi, if_true, mCons_e, mNil_e, h1, List.length_cons, List.length_nil]
  exact hF
theorem pure_optK (o : Option (List Nat)) : pureD (optK o) = true := by
  cases o with
  | none => rfl
  | some t =>
    show pureDs (natD t) = true
    induction t with
    | nil => rfl
    | cons n l ih => exact ih
theorem PL_kN {n : Nat} {l : List Nat} (hl : l.length ≤ 100000) : PL (n + 2) (kN l) := by
  refine ⟨by rw [natD, List.length_map]; exact hl, fun d hd => ?_⟩
  obtain ⟨k, _, rfl⟩ := List.mem_map.mp hd
  trivial
theorem PL_opt {o : Option (List Nat)} (h : ∀ t, o = some t → t.length ≤ 1000) : PL 8 (optK o) := by
  cases o with
  | none => trivial
  | some t => exact PL_kN (n := 6) (by have := h t rfl; omega)
theorem kN_last {P : List Nat} (h : 1 ≤ P.length) : atI (natD P) (-1) = some (.int (P.getLastD 0 : Nat)) := by
  have hlt : P.length - 1 < P.length := by omega
  have e : P.getLastD 0 = P[P.length - 1] := by
    rw [List.getLastD_eq_getLast?, List.getLast?_eq_getElem?, List.getElem?_eq_getElem hlt]; rfl
  unfold atI ixN
  rw [natD_len, if_neg (by decide), if_pos (by omega)]
  show (natD P)[_]? = _
  rw [e, natD, List.getElem?_map]
  have : ((-1 : Int) + (P.length : Int)).toNat = P.length - 1 := by omega
  rw [this, List.getElem?_eq_getElem hlt]
  rfl
theorem len2 {a b : List Nat} {B : BK} (h : (keys B).length ≤ 20) (hz : 1000 ≤ sizeLine) : ((keys B).map kN).length + ([a, b].map kN).length ≤ sizeLine := by
  rw [show ([a, b].map kN).length = 2 from rfl, List.length_map]
  omega
theorem turn3 (hP1 : 1 ≤ P.length) (hP : P.length ≤ 14) (hB : Bok B) : ∃ w7 w9 w10, l3_law (E3 ns ds P B (.own (.lst ((keys B).map kN))) v6 v7 v8 v9 v10 v11) = .nx (E3 ns ds P (stepK P B) (.own (.lst ((keys (stepK P B)).map kN))) v6 w7 v8 w9 w10 v11) := by
  have hz : (1000 : Nat) ≤ sizeLine := size_big (by decide)
  have hkl : (keys B).length ≤ 20 := by rw [List.length_map]; exact hB.len
  have h1000 : ∀ t ∈ keys B, t.length ≤ 1000 := fun t ht => by have := hB.le t ht; omega
  have hbest : ∀ t, longB P (keys B) = some t → t.length ≤ 1000 := fun t h => h1000 t (longB_mem h)
  unfold l3_law
  have c1 : (mFn F__law_longest (mCons (mV 5) (mCons (mV 2) mNil)) 2) (E3 ns ds P B (.own (.lst ((keys B).map kN))) v6 v7 v8 v9 v10 v11) = .ok (.fz (optK (longB P (keys B)))) :=
    call2 (a := .ow false (.lst ((keys B).map kN))) (b := .fz (.lst (natD P))) rfl rfl (appF_pure (ds := [.lst ((keys B).map kN), .lst (natD P)]) rfl (ev_long h1000 (by omega)) (pure_optK _))
  rw [seq_ok (setF_ok c1 rfl)]
  simp only [List.set_cons_zero, List.set_cons_succ]
  have c2 : (mCall (mCons (mV 2) mNil) gList) (E3 ns ds P B (.own (.lst ((keys B).map kN))) v6 v7 v8 (.val (optK (longB P (keys B)))) v10 v11) = .ok (.ow true (.lst (natD P))) := rfl
  rw [seq_ok (setF_ok c2 rfl)]
  simp only [List.set_cons_zero, List.set_cons_succ, OW.d_lst]
  have hm : ∀ (ma : DL.Env → Rz EV) (d : D) (e : ∀ env, env.getD 2 .no = .val (.lst (natD P)) → env.getD 10 .no = .val (.lst (natD P)) → ma env = .ok (.fz d)), PileD P d → (mLendK 4 ["Book"] "rows" (mMe "Book" "match" F_Book_match 2 (mV 4) (mCons ma mNil))) (E3 ns ds P B (.own (.lst ((keys B).map kN))) v6 v7 v8 (.val (optK (longB P (keys B)))) (.val (.lst (natD P))) v11) = .ok (.fz (optK (longB P (keys B)))) := fun ma d e hd => by
    refine lendK_go (B := B) rfl (me1 (o := .fz (bkV B)) (a := .fz d) rfl rfl (e _ rfl rfl) ?_) (pure_optK _)
    exact appF_two (ev_match hd (fun p hp => h1000 p.1 (List.mem_map.mpr ⟨p, hp, rfl⟩)) (by omega))
  have hPL := PL_opt hbest
  have t1 := sm_go (hm (mV 10) (.lst (natD P)) (fun env _ h => by rw [mV_e, h]; rfl) (.inr rfl)) (mb := mV 9) (b := .fz (optK (longB P (keys B)))) rfl rfl rfl hPL
  have t2 := sm_go (hm (mCall (mCons (mV 2) mNil) gTuple) (kN P) (fun env h _ => by simp only [mCall_e, mCons_e, mNil_e, mV_e, h, rdSlot_val, Rz.ok_bind, EV.fr_fz]; rfl) (.inl rfl)) (mb := mV 9) (b := .fz (optK (longB P (keys B)))) rfl rfl rfl hPL
  have t3 : (mB (m2 (mV 10) (mV 2) opNe)) (E3 ns ds P B (.own (.lst ((keys B).map kN))) v6 v7 v8 (.val (optK (longB P (keys B)))) (.val (.lst (natD P))) v11) = .ok false := by
    have hq : eqD (.lst (natD P)) (.lst (natD P)) = some (decide (P = P)) := eqD_en eNL (se_nl (by omega)) (se_nl (by omega))
    rw [decide_eq_true rfl] at hq
    exact mB_go (m2_go (a := .fz (.lst (natD P))) (b := .fz (.lst (natD P))) rfl rfl (opNe_d (a := .fz (.lst (natD P))) (b := .fz (.lst (natD P))) hq))
  rw [seq_ok (ifF ((or_go t1).trans ((or_go t2).trans t3)))]
  -- the rows and two more
  obtain ⟨X, hX⟩ : ∃ X, X = keys B ++ [(P.reverse ++ [0]).take 12, [P.getLastD 0]] := ⟨_, rfl⟩
  have hit : (mItems (m2 (mV 5) (mLst (mCons (mSl (mCall (mCons (m2 (mV 3) (mLst (mCons (mC (.int 0)) mNil)) opAdd) mNil) gTuple) none (some (mC (.int 12)))) (mCons (mTup (mCons (m2 (mV 2) (mNeg (mC (.int 1))) opIx) mNil)) mNil))) opAdd)) (E3 ns ds P B (.own (.lst ((keys B).map kN))) v6 v7 v8 (.val (optK (longB P (keys B)))) (.val (.lst (natD P))) v11) = .ok (X.map kN) := by
    generalize hE : (E3 ns ds P B (.own (.lst ((keys B).map kN))) v6 v7 v8 (.val (optK (longB P (keys B)))) (.val (.lst (natD P))) v11) = E
    have hv5 : (mV 5) E = .ok (.ow false (.lst ((keys B).map kN))) := by rw [← hE]; rfl
    have hv3 : (mV 3) E = .ok (.fz (.lst (natD P.reverse))) := by rw [← hE]; rfl
    have hv2 : (mV 2) E = .ok (.fz (.lst (natD P))) := by rw [← hE]; rfl
    have z0 : (mLst (mCons (mC (.int 0)) mNil)) E = .ok (.ow true (.lst (natD [0]))) := by
      simp only [mLst_e, mCons_e, mNil_e, mC_e, Rz.ok_bind, EV.fr_fz, allFz_fz, allFz_nil, Option.map_some, orStuck_some, List.length_cons, List.length_nil]
      rw [if_pos (by omega)]
      rfl
    have z1 : (m2 (mV 3) (mLst (mCons (mC (.int 0)) mNil)) opAdd) E = .ok (.ow true (.lst (natD (P.reverse ++ [0])))) := by
      refine (m2_go hv3 z0 (r := .ok (.ow true (.lst (natD P.reverse ++ natD [0])))) ?_).trans ?_
      · rw [opAdd_fo, if_pos (by rw [natD_len, natD_len, List.length_reverse]; simp only [List.length_cons, List.length_nil]; omega)]
      · rw [natD, natD, natD, ← List.map_append]
    have z2 : (mSl (mCall (mCons (m2 (mV 3) (mLst (mCons (mC (.int 0)) mNil)) opAdd) mNil) gTuple) none (some (mC (.int 12)))) E = .ok (.fz (kN ((P.reverse ++ [0]).take 12))) := by
      have : (mCall (mCons (m2 (mV 3) (mLst (mCons (mC (.int 0)) mNil)) opAdd) mNil) gTuple) E = .ok (.fz (kN (P.reverse ++ [0]))) := by
        simp only [mCall_e, mCons_e, mNil_e, z1, Rz.ok_bind, EV.fr_new, OW.d_lst]; rfl
      rw [mSl_e, this]
      simp only [Rz.ok_bind, mPart_none, mPart_some, mC_e]
      show Rz.ok (EV.fz (.tup (cutD (natD (P.reverse ++ [0])) none (some ((12 : Nat) : Int))))) = _
      rw [cut_take, natD_take]
      rfl
    have z3 : (mTup (mCons (m2 (mV 2) (mNeg (mC (.int 1))) opIx) mNil)) E = .ok (.fz (kN [P.getLastD 0])) := by
      have hn : (mNeg (mC (.int 1))) E = .ok (.fz (.int (-1))) := rfl
      have : (m2 (mV 2) (mNeg (mC (.int 1))) opIx) E = .ok (.fz (.int (P.getLastD 0 : Nat))) := by
        refine m2_go hv2 hn ?_
        rw [opIx_e, ixD_lst, kN_last hP1]; rfl
      simp only [mTup_e, mCons_e, mNil_e, this, Rz.ok_bind, EV.fr_fz, allFz_fz, allFz_nil, Option.map_some, orStuck_some, List.length_cons, List.length_nil]
      rw [if_pos (by omega)]
      rfl
    have z4 : (mLst (mCons (mSl (mCall (mCons (m2 (mV 3) (mLst (mCons (mC (.int 0)) mNil)) opAdd) mNil) gTuple) none (some (mC (.int 12)))) (mCons (mTup (mCons (m2 (mV 2) (mNeg (mC (.int 1))) opIx) mNil)) mNil))) E = .ok (.ow true (.lst ([(P.reverse ++ [0]).take 12, [P.getLastD 0]].map kN))) := by
      simp only [mLst_e, mCons_e, mNil_e, z2, z3, Rz.ok_bind, EV.fr_fz, allFz_fz, allFz_nil, Option.map_some, orStuck_some, List.length_cons, List.length_nil]
      rw [if_pos (by omega)]
      rfl
    have z5 : (m2 (mV 5) (mLst (mCons (mSl (mCall (mCons (m2 (mV 3) (mLst (mCons (mC (.int 0)) mNil)) opAdd) mNil) gTuple) none (some (mC (.int 12)))) (mCons (mTup (mCons (m2 (mV 2) (mNeg (mC (.int 1))) opIx) mNil)) mNil))) opAdd) E = .ok (.ow true (.lst (X.map kN))) := by
      refine (m2_go hv5 z4 (r := .ok (.ow true (.lst ((keys B).map kN ++ [(P.reverse ++ [0]).take 12, [P.getLastD 0]].map kN)))) ?_).trans ?_
      · rw [opAdd_oo, if_pos (len2 hkl hz)]
      · rw [hX, List.map_append]
    show ((m2 _ _ opAdd) E >>= fun a => frD a >>= items) = _
    rw [z5]
    rfl
  have hXl : ∀ t ∈ X, t.length ≤ 1000 := fun t ht => by
    rw [hX] at ht
    rcases List.mem_append.mp ht with ht | ht
    · exact h1000 t ht
    · simp only [List.mem_cons, List.not_mem_nil, or_false] at ht
      rcases ht with rfl | rfl
      · rw [List.length_take]; omega
      · exact (by decide : (1 : Nat) ≤ 1000)
  obtain ⟨w7, e1⟩ := for_ls (p := pName 7) (b := l2_law) (J := SL) kN (fun _ j => E3 ns ds P B (.own (.lst ((keys B).map kN))) v6 j v8 (.val (optK (longB P (keys B)))) (.val (.lst (natD P))) v11) X v7 fun i t j hi => ⟨_, .val (kN t), rfl, .inl (turn_l2 (hXl t (List.mem_of_getElem? hi)) (by omega))⟩
  rw [seq_ok ((for_ok hit).trans e1)]
  -- longer than the pile
  have t4 : (mAnd (mB (m2 (mCall (mCons (mV 3) mNil) gLen) (mC (.int 12)) opLt)) (mNot (mB (mFn (F__law_same 8) (mCons (mFn F_Book_fits (mCons (mCall (mCons (m2 (mV 3) (mLst (mCons (mC (.int 9)) mNil)) opAdd) mNil) gTuple) (mCons (mCall (mCons (mV 2) mNil) gTuple) mNil)) 2) (mCons (mC (.bl false)) mNil)) 2)))) (E3 ns ds P B (.own (.lst ((keys B).map kN))) v6 w7 v8 (.val (optK (longB P (keys B)))) (.val (.lst (natD P))) v11) = .ok false := by
    generalize hE : (E3 ns ds P B (.own (.lst ((keys B).map kN))) v6 w7 v8 (.val (optK (longB P (keys B)))) (.val (.lst (natD P))) v11) = E
    have hv3 : (mV 3) E = .ok (.fz (.lst (natD P.reverse))) := by rw [← hE]; rfl
    have hv2 : (mV 2) E = .ok (.fz (.lst (natD P))) := by rw [← hE]; rfl
    have z0 : (mLst (mCons (mC (.int 9)) mNil)) E = .ok (.ow true (.lst (natD [9]))) := by
      simp only [mLst_e, mCons_e, mNil_e, mC_e, Rz.ok_bind, EV.fr_fz, allFz_fz, allFz_nil, Option.map_some, orStuck_some, List.length_cons, List.length_nil]
      rw [if_pos (by omega)]
      rfl
    have z1 : (m2 (mV 3) (mLst (mCons (mC (.int 9)) mNil)) opAdd) E = .ok (.ow true (.lst (natD (P.reverse ++ [9])))) := by
      refine (m2_go hv3 z0 (r := .ok (.ow true (.lst (natD P.reverse ++ natD [9])))) ?_).trans ?_
      · rw [opAdd_fo, if_pos (by rw [natD_len, natD_len, List.length_reverse]; simp only [List.length_cons, List.length_nil]; omega)]
      · rw [natD, natD, natD, ← List.map_append]
    have z2 : (mCall (mCons (m2 (mV 3) (mLst (mCons (mC (.int 9)) mNil)) opAdd) mNil) gTuple) E = .ok (.fz (kN (P.reverse ++ [9]))) := by
      simp only [mCall_e, mCons_e, mNil_e, z1, Rz.ok_bind, EV.fr_new, OW.d_lst]; rfl
    have z3 : (mCall (mCons (mV 2) mNil) gTuple) E = .ok (.fz (kN P)) := by
      simp only [mCall_e, mCons_e, mNil_e, hv2, Rz.ok_bind, EV.fr_fz]; rfl
    have z4 : (mFn F_Book_fits (mCons (mCall (mCons (m2 (mV 3) (mLst (mCons (mC (.int 9)) mNil)) opAdd) mNil) gTuple) (mCons (mCall (mCons (mV 2) mNil) gTuple) mNil)) 2) E = .ok (.fz (.bl false)) := by
      have := ap_fits (t := P.reverse ++ [9]) (P := P) (d := kN P) (.inl rfl) (by simp; omega) (by omega)
      rw [long_fit (by simp)] at this
      exact call2 z2 z3 this
    have z5 := sm_go (ma := mFn F_Book_fits (mCons (mCall (mCons (m2 (mV 3) (mLst (mCons (mC (.int 9)) mNil)) opAdd) mNil) gTuple) (mCons (mCall (mCons (mV 2) mNil) gTuple) mNil)) 2) (mb := mC (.bl false)) z4 (mC_e _ _) rfl rfl (d := .bl false) trivial
    have z6 : ∃ k, (mB (m2 (mCall (mCons (mV 3) mNil) gLen) (mC (.int 12)) opLt)) E = .ok k := by
      have hl : (mCall (mCons (mV 3) mNil) gLen) E = .ok (.fz (.int ((natD P.reverse).length : Nat))) := by
        simp only [mCall_e, mCons_e, mNil_e, hv3, Rz.ok_bind, EV.fr_fz, gLen_l]
      exact ⟨_, mB_go (m2_go hl (mC_e _ _) (show opLt (.fz (.int ((natD P.reverse).length : Nat))) (.fz (.int 12)) = .ok (.fz (.bl (decide ((((natD P.reverse).length : Nat) : Int) < 12)))) from rfl))⟩
    obtain ⟨k, z6⟩ := z6
    rw [mAnd_e, z6]
    cases k with
    | false => rfl
    | true => simpa using z5
  rw [seq_ok (ifF t4)]
  -- the book's tops
  have c5 : (mLendK 4 ["Book"] "rows" (mLc (mItOD "Book" "rows" (mV 4)) (pName 11) mYes e2_law [11])) (E3 ns ds P B (.own (.lst ((keys B).map kN))) v6 w7 v8 (.val (optK (longB P (keys B)))) (.val (.lst (natD P))) v11) = .ok (.ow true (.lst ((keys B).map kN))) := by
    refine lendK_go (B := B) rfl ?_ ?_
    · rw [List.map_map]
      refine mLc_all (i := 11) (en := fun p : List Nat × RV => kN p.1) (xs := B) ?_ (fun p hp => ⟨.fz (kN p.1), rfl, rfl⟩) (size_big (by have := hB.len; omega))
      show (Rz.ok (EV.fz (bkV B)) >>= fun a => frD a >>= ownItsD "Book" "rows") = _
      show ownItsD "Book" "rows" (bkV B) = _
      unfold ownItsD
      dsimp only
      rw [if_pos rfl]
      show Rz.ok ((bkD B).map (·.1)) = _
      show Rz.ok ((B.map fun p => (kN p.1, rvD p.2)).map (·.1)) = _
      rw [List.map_map]
      rfl
    · show pureDs ((keys B).map kN) = true
      have : ∀ R : List (List Nat), pureDs (R.map kN) = true := fun R => by
        induction R with
        | nil => rfl
        | cons t R ih =>
          show (pureD (kN t) && pureDs (R.map kN)) = true
          rw [ih, show pureD (kN t) = true from pure_optK (some t)]
          rfl
      exact this _
  have hPLk : PL 8 (.lst ((keys B).map kN)) := by
    refine ⟨by rw [List.length_map]; omega, fun d hd => ?_⟩
    obtain ⟨t, ht, rfl⟩ := List.mem_map.mp hd
    exact PL_kN (n := 5) (by have := h1000 t ht; omega)
  have c6 : (mNot (mB (mFn (F__law_same 8) (mCons (mLendK 4 ["Book"] "rows" (mLc (mItOD "Book" "rows" (mV 4)) (pName 11) mYes e2_law [11])) (mCons (mV 5) mNil)) 2))) (E3 ns ds P B (.own (.lst ((keys B).map kN))) v6 w7 v8 (.val (optK (longB P (keys B)))) (.val (.lst (natD P))) v11) = .ok false := by
    have : (mFn (F__law_same 8) (mCons (mLendK 4 ["Book"] "rows" (mLc (mItOD "Book" "rows" (mV 4)) (pName 11) mYes e2_law [11])) (mCons (mV 5) mNil)) 2) (E3 ns ds P B (.own (.lst ((keys B).map kN))) v6 w7 v8 (.val (optK (longB P (keys B)))) (.val (.lst (natD P))) v11) = .ok (.fz (.bl true)) :=
      call2 c5 (b := .ow false (.lst ((keys B).map kN))) rfl (appF_pure (ds := [.lst ((keys B).map kN), .lst ((keys B).map kN)]) rfl (same_refl 8 _ hPLk (by decide)) rfl)
    unfold mNot
    rw [mB_go this]
    rfl
  rw [seq_ok (ifF c6)]
  -- the longest is dropped
  have c7 : (mB (m2 (mV 9) (mC .non) opIsn)) (E3 ns ds P B (.own (.lst ((keys B).map kN))) v6 w7 v8 (.val (optK (longB P (keys B)))) (.val (.lst (natD P))) v11) = .ok (longB P (keys B)).isSome := by
    refine mB_go (m2_go (a := .fz (optK (longB P (keys B)))) rfl (mC_e _ _) ?_)
    cases longB P (keys B) <;> rfl
  cases hb : longB P (keys B) with
  | none =>
    rw [hb] at c7
    have hs : stepK P B = B := by unfold stepK; rw [hb]
    rw [hs]
    exact ⟨_, _, _, ifF c7⟩
  | some t =>
    rw [hb] at c7
    have hs : stepK P B = dropB B t := by unfold stepK; rw [hb]
    have hmem := longB_mem hb
    have hg : (getB B t).isSome = true := by
      cases hg : getB B t with
      | some _ => rfl
      | none => exact absurd hmem (getB_none.mp hg)
    have hd := callT_go (i := 4) (B := B) (t := t) (ma := mV 9) (env := E3 ns ds P B (.own (.lst ((keys B).map kN))) v6 w7 v8 (.val (optK (some t))) (.val (.lst (natD P))) v11) rfl rfl hg
    have hdrop : (mDropM (mCallT "Book" (noFldT "drop") F_Book_drop 1 4 (mCons (mV 9) mNil))) (E3 ns ds P B (.own (.lst ((keys B).map kN))) v6 w7 v8 (.val (optK (some t))) (.val (.lst (natD P))) v11) = .nx (E3 ns ds P (dropB B t) (.own (.lst ((keys B).map kN))) v6 w7 v8 (.val (optK (some t))) (.val (.lst (natD P))) v11) := by
      unfold mDropM onM
      rw [hd]
      rfl
    have hlast : ∀ w7, ∃ w7', (mFrz 7 (mFrz 5 (mSetO 5 (mLc (mItems (mV 5)) (pName 7) t1_law e3_law [7])))) (E3 ns ds P (dropB B t) (.own (.lst ((keys B).map kN))) v6 w7 v8 (.val (optK (some t))) (.val (.lst (natD P))) v11) = .nx (E3 ns ds P (dropB B t) (.own (.lst ((keys (dropB B t)).map kN))) v6 w7' v8 (.val (optK (some t))) (.val (.lst (natD P))) v11) := fun w7 => by
      have core : ∀ w7, (mFrz 5 (mSetO 5 (mLc (mItems (mV 5)) (pName 7) t1_law e3_law [7]))) (E3 ns ds P (dropB B t) (.own (.lst ((keys B).map kN))) v6 w7 v8 (.val (optK (some t))) (.val (.lst (natD P))) v11) = .nx (E3 ns ds P (dropB B t) (.own (.lst ((keys (dropB B t)).map kN))) v6 w7 v8 (.val (optK (some t))) (.val (.lst (natD P))) v11) := fun w7 => by
        show (mSetO 5 (mLc (mItems (mV 5)) (pName 7) t1_law e3_law [7])) (E3 ns ds P (dropB B t) (.val (.lst ((keys B).map kN))) v6 w7 v8 (.val (optK (some t))) (.val (.lst (natD P))) v11) = _
        have hc := mLc_if (i := 7) (t := t1_law) (e := e3_law) (env := E3 ns ds P (dropB B t) (.val (.lst ((keys B).map kN))) v6 w7 v8 (.val (optK (some t))) (.val (.lst (natD P))) v11) (en := kN) (f := kN) (k := fun x : List Nat => !decide (x = t)) (xs := keys B) (it := mItems (mV 5)) rfl (fun x hx => by
          have hq : eqD (kN x) (kN t) = some (decide (x = t)) := eqD_en eKN (se_kN (by have := h1000 x hx; omega)) (se_kN (by have := h1000 t hmem; omega))
          exact mB_go (m2_go (a := .fz (kN x)) (b := .fz (kN t)) rfl rfl (opNe_d (a := .fz (kN x)) (b := .fz (kN t)) hq))) (fun x _ _ => ⟨.fz (kN x), rfl, rfl⟩) (by omega)
        rw [setO_ok hc]
        unfold keys
        rw [drop_keys]
        rfl
      unfold mFrz
      split
      · exact ⟨_, core _⟩
      · exact ⟨_, core _⟩
    obtain ⟨w7', hl⟩ := hlast w7
    rw [hs]
    exact ⟨_, _, _, (ifT c7).trans ((seq_ok hdrop).trans hl)⟩
end
theorem fin_ok (ds : List Nat) (n : Nat) (hn : n ≤ 10) : ¬ ([98, 97] : List Nat) ∈ keys (bookR ds n) ∧ Bok (putB (bookR ds n) [98, 97] ([], "")) := by
  obtain ⟨b1, b2, b3⟩ := book_facts ds n
  have h0 : ¬ ([98, 97] : List Nat) ∈ keys (bookR ds n) := fun h => by
    have := (b3 _ h).2 98 (by simp)
    omega
  refine ⟨h0, ?_, Nat.le_trans (put_len _ _ _) (by omega), ?_⟩
  · unfold keys
    rw [put_keys, if_neg h0, List.nodup_append]
    exact ⟨b2, by simp, fun a ha b hb e => h0 (by rw [List.mem_singleton.mp hb] at e; rw [← e]; exact ha)⟩
  · unfold keys
    rw [put_keys, if_neg h0]
    intro t ht
    rcases List.mem_append.mp ht with ht | ht
    · exact (b3 t ht).1
    · rw [List.mem_singleton.mp ht]; decide
def itK (P : List Nat) (B : BK) : Nat → BK
  | 0 => B
  | k + 1 => stepK P (itK P B k)
theorem itK_ok {P : List Nat} {B : BK} (h : Bok B) : ∀ k, Bok (itK P B k)
  | 0 => h
  | k + 1 => stepK_ok (itK_ok h k)
theorem ev_law (ns : List Int) (hns : ns.length ≤ 63) : F_law [.scr ns] = .ok (.fz (.bl true)) := by
  obtain ⟨ds, hd, hl, _⟩ := ap_dr (cellOf ns 0) 48 48 rfl (by decide)
  have hz : (1000 : Nat) ≤ sizeLine := size_big (by decide)
  unfold F_law DL.runB b_law
  rw [show List.map SL.val [D.scr ns] ++ List.replicate (12 - [D.scr ns].length) SL.no = [.val (.scr ns), .no, .no, .no, .no, .no, .no, .no, .no, .no, .no, .no] from rfl]
  have c1 : (mFn F__law_draws (mCons (mFn F__law_cell (mCons (mV 0) (mCons (mC (.int 0)) mNil)) 2) (mCons (mC (.int 48)) mNil)) 2) [.val (.scr ns), .no, .no, .no, .no, .no, .no, .no, .no, .no, .no, .no] = .ok (.ow true (.lst (natD ds))) := by
    have k1 := call2 (F := F__law_cell) (ma := mV 0) (mb := mC (.int 0)) (env := [.val (.scr ns), .no, .no, .no, .no, .no, .no, .no, .no, .no, .no, .no]) (a := .fz (.scr ns)) (b := .fz (.int 0)) rfl rfl (ap_cell ns 0 0 rfl)
    exact call2 (F := F__law_draws) (b := .fz (.int 48)) k1 rfl hd
  rw [seq_ok (setF_ok c1 rfl)]
  simp only [List.set_cons_zero, List.set_cons_succ, OW.d_lst]
  have c2 : (m2 (mLst (mCons (mC (.int 0)) mNil)) (mLc (mRng1 (mCons (m2 (mCall (mCons (m2 (mV 1) (mC (.int 0)) opIx) mNil) gInt) (mC (.int 14)) opMod) mNil)) (pName 6) mYes e1_law [6]) opAdd) [.val (.scr ns), .val (.lst (natD ds)), .no, .no, .no, .no, .no, .no, .no, .no, .no, .no] = .ok (.ow true (.lst (natD (pileR ds)))) := by
    have z0 : (mLst (mCons (mC (.int 0)) mNil)) [.val (.scr ns), .val (.lst (natD ds)), .no, .no, .no, .no, .no, .no, .no, .no, .no, .no] = .ok (.ow true (.lst (natD [0]))) := by
      simp only [mLst_e, mCons_e, mNil_e, mC_e, Rz.ok_bind, EV.fr_fz, allFz_fz, allFz_nil, Option.map_some, orStuck_some, List.length_cons, List.length_nil]
      rw [if_pos (by omega)]
      rfl
    have hm := Nat.mod_lt (gd ds 0) (show 0 < 14 by decide)
    have z1 : (mLc (mRng1 (mCons (m2 (mCall (mCons (m2 (mV 1) (mC (.int 0)) opIx) mNil) gInt) (mC (.int 14)) opMod) mNil)) (pName 6) mYes e1_law [6]) [.val (.scr ns), .val (.lst (natD ds)), .no, .no, .no, .no, .no, .no, .no, .no, .no, .no] = .ok (.ow true (.lst (natD ((List.range (gd ds 0 % 14)).map fun k => 1 + gd ds (2 + k) % 4)))) := by
      rw [show natD ((List.range (gd ds 0 % 14)).map fun k => 1 + gd ds (2 + k) % 4) = (List.range (gd ds 0 % 14)).map fun k => D.int ((1 + gd ds (2 + k) % 4 : Nat) : Int) from List.map_map]
      refine mLc_all (i := 6) (en := fun (k : Nat) => D.int k) (rng1_ok (n := gd ds 0 % 14) (dm_go (n := 14) (by decide) (dr_go hl (i := 0) (j := 0) rfl (by decide) rfl (mC_e _ _)) (mC_e _ _)) (by omega)) (fun k hk => ⟨.fz (.int ((1 + gd ds (2 + k) % 4 : Nat) : Int)), ?_, rfl⟩) (size_big (by rw [List.length_range]; omega))
      have hk := List.mem_range.mp hk
      unfold e1_law
      refine (m2_go (mC_e _ _) (dm_go (n := 4) (by decide) (dr_go hl (i := 2 + (k : Int)) (j := 2 + k) (by omega) (by omega) rfl (m2_go (b := .fz (.int (k : Nat))) (mC_e _ _) rfl (opAdd_int _ _))) (mC_e _ _)) (opAdd_int _ _)).trans ?_
      congr 3
    refine (m2_go z0 z1 (r := .ok (.ow true (.lst (natD [0] ++ natD ((List.range (gd ds 0 % 14)).map fun k => 1 + gd ds (2 + k) % 4))))) ?_).trans ?_
    · rw [opAdd_oo, if_pos (by rw [natD_len, natD_len, List.length_map, List.length_range]; simp only [List.length_cons, List.length_nil]; omega)]
    · rw [natD, natD, natD, ← List.map_append]
      rfl
  rw [seq_ok (setF_ok c2 rfl)]
  simp only [List.set_cons_zero, List.set_cons_succ, OW.d_lst]
  have c3 : (mRev (mV 2)) [.val (.scr ns), .val (.lst (natD ds)), .val (.lst (natD (pileR ds))), .no, .no, .no, .no, .no, .no, .no, .no, .no] = .ok (.ow true (.lst (natD (pileR ds).reverse))) := by
    show Rz.ok (EV.ow true (.lst (natD (pileR ds)).reverse)) = _
    rw [natD_rev]
  rw [seq_ok (setF_ok c3 rfl)]
  simp only [List.set_cons_zero, List.set_cons_succ, OW.d_lst]
  rw [seq_ok (new_book 4 _)]
  simp only [List.set_cons_zero, List.set_cons_succ]
  have c5 : (mSetO 5 (mLst mNil)) [.val (.scr ns), .val (.lst (natD ds)), .val (.lst (natD (pileR ds))), .val (.lst (natD (pileR ds).reverse)), bkT [], .no, .no, .no, .no, .no, .no, .no] = .nx (E3 ns ds (pileR ds) (bookR ds 0) (.own (.lst ((keys (bookR ds 0)).map kN))) .no .no .no .no .no .no) := by
    refine (setO_ok (w := .lst []) ?_).trans rfl
    simp only [mLst_e, mNil_e, Rz.ok_bind, allFz_nil, orStuck_some, List.length_nil]
    rw [if_pos (Nat.zero_le _)]
  rw [seq_ok c5]
  have hm := Nat.mod_lt (gd ds 1) (show 0 < 11 by decide)
  obtain ⟨⟨v6, v7⟩, e1⟩ := for_rg (p := pName 6) (b := l1_law) (fun i (j : SL × SL) => E3 ns ds (pileR ds) (bookR ds i) (.own (.lst ((keys (bookR ds i)).map kN))) j.1 j.2 .no .no .no .no) (gd ds 1 % 11) (.no, .no) fun i j hi => by
    obtain ⟨w7, e⟩ := turn1 (ns := ns) (ds := ds) (k := i) (v7 := j.2) (v8 := .no) (v9 := .no) (v10 := .no) (v11 := .no) hl (by omega) rfl
    exact ⟨_, (.val (.int (i : Nat)), w7), rfl, .inl e⟩
  rw [seq_ok ((for_ok (rng1_ok (n := gd ds 1 % 11) (dm_go (n := 11) (mb := mC (.int 11)) (by decide) (dr_go hl (m := mC (.int 1)) (i := 1) (j := 1) rfl (by decide) rfl (mC_e _ _)) rfl) (by omega))).trans e1)]
  obtain ⟨f1, f2⟩ := fin_ok ds (gd ds 1 % 11) (by omega)
  have k98 : ∀ env, (mTup (mCons (mC (.int 98)) (mCons (mC (.int 97)) mNil))) env = .ok (.fz (kN [98, 97])) := fun env => by
    simp only [mTup_e, mCons_e, mNil_e, mC_e, Rz.ok_bind, EV.fr_fz, allFz_fz, allFz_nil, Option.map_some, orStuck_some, List.length_cons, List.length_nil]
    rw [if_pos (by omega)]
    rfl
  have hBl := (book_facts ds (gd ds 1 % 11)).1
  rw [seq_ok (setIO_go (i := 4) (B := bookR ds (gd ds 1 % 11)) (t := [98, 97]) (w := ([], "")) rfl (row_val0 _) rfl (k98 _) (by omega))]
  simp only [List.set_cons_zero, List.set_cons_succ]
  have c7 : (mApp 5 (mTup (mCons (mC (.int 98)) (mCons (mC (.int 97)) mNil)))) (E3 ns ds (pileR ds) (putB (bookR ds (gd ds 1 % 11)) [98, 97] ([], "")) (.own (.lst ((keys (bookR ds (gd ds 1 % 11))).map kN))) v6 v7 .no .no .no .no) = .nx (E3 ns ds (pileR ds) (putB (bookR ds (gd ds 1 % 11)) [98, 97] ([], "")) (.own (.lst ((keys (putB (bookR ds (gd ds 1 % 11)) [98, 97] ([], ""))).map kN))) v6 v7 .no .no .no .no) := by
    rw [app_ok (ds := (keys (bookR ds (gd ds 1 % 11))).map kN) rfl (k98 _) rfl (by rw [List.length_map, List.length_map]; omega)]
    have hk := put_keys (bookR ds (gd ds 1 % 11)) [98, 97] ((([] : List Str), ("" : Str)) : RV)
    rw [if_neg f1] at hk
    rw [show keys (putB (bookR ds (gd ds 1 % 11)) [98, 97] ([], "")) = _ from hk, show (keys (bookR ds (gd ds 1 % 11))).map kN ++ [kN [98, 97]] = (keys (bookR ds (gd ds 1 % 11)) ++ [[98, 97]]).map kN from by rw [List.map_append]; rfl]
    rfl
  rw [seq_ok c7]
  generalize putB (bookR ds (gd ds 1 % 11)) [98, 97] ([], "") = B0 at f2
  have hp := pile_len ds
  obtain ⟨⟨w7, w8, w9, w10⟩, e2⟩ := for_rg (p := pName 8) (b := l3_law) (fun i (j : SL × SL × SL × SL) => E3 ns ds (pileR ds) (itK (pileR ds) B0 i) (.own (.lst ((keys (itK (pileR ds) B0 i)).map kN))) v6 j.1 j.2.1 j.2.2.1 j.2.2.2 .no) 4 (v7, .no, .no, .no) fun i j hi => by
    obtain ⟨w7, w9, w10, e⟩ := turn3 (ns := ns) (ds := ds) (P := pileR ds) (B := itK (pileR ds) B0 i) (v6 := v6) (v7 := j.1) (v8 := .val (.int (i : Nat))) (v9 := j.2.2.1) (v10 := j.2.2.2) (v11 := .no) hp.1 hp.2 (itK_ok f2 i)
    exact ⟨_, (w7, .val (.int (i : Nat)), w9, w10), rfl, .inl e⟩
  rw [show itK (pileR ds) B0 0 = B0 from rfl] at e2
  rw [seq_ok ((for_ok (rng1_ok (a := mC (.int 4)) (n := 4) rfl (by decide))).trans e2)]
  rfl
end LW.K33
namespace LW.K33
open PySem PySem.Spec PyProof.Rows L2 DL
theorem facts {K : PySem.W.Frag} {h : Heap} {mg : Str → Option Value} (X : K.In h) (G : h.Ns mainGlobals mg) (c : SaysE ask K) : Tx PP K mg := by
  have T_gk_NoRow : mg "NoRow" = some (.ref (He.ga K "NoRow")) := He.glo_ok X G (c.fact 0 (f := fa0) rfl)
  have T_k_Book : Cls K (He.ga K "Book") := He.cls_ok (c.fact 1 (f := fa1) rfl)
  have T_gk_Book : mg "Book" = some (.ref (He.ga K "Book")) := He.glo_ok X G (c.fact 2 (f := fa2) rfl)
  have T_m_Book_getitem : Meth K (He.ga K "Book") "__getitem__" (He.ma K (He.ga K "Book") "__getitem__") := He.meth_ok (c.fact 3 (f := fa3) rfl)
  have T_m_Book_iter : Meth K (He.ga K "Book") "__iter__" (He.ma K (He.ga K "Book") "__iter__") := He.meth_ok (c.fact 4 (f := fa4) rfl)
  have T_m_Book_setitem : Meth K (He.ga K "Book") "__setitem__" (He.ma K (He.ga K "Book") "__setitem__") := He.meth_ok (c.fact 5 (f := fa5) rfl)
  have T_g__law_draws : mg "_law_draws" = some (.ref (He.ga K "_law_draws")) := He.glo_ok X G (c.fact 6 (f := fa6) rfl)
  have T_mk_Book : Mk K (He.ga K "Book") (He.ma K (He.ga K "Book") "__init__") := He.mkr_ok (c.fact 7 (f := fa7) rfl)
  have T_g__law_cell : mg "_law_cell" = some (.ref (He.ga K "_law_cell")) := He.glo_ok X G (c.fact 8 (f := fa8) rfl)
  have T_gk_SymbolError : mg "SymbolError" = some (.ref (He.ga K "SymbolError")) := He.glo_ok X G (c.fact 9 (f := fa9) rfl)
  have T_g_is_word : mg "is_word" = some (.ref (He.ga K "is_word")) := He.glo_ok X G (c.fact 10 (f := fa10) rfl)
  have T_g_is_sign : mg "is_sign" = some (.ref (He.ga K "is_sign")) := He.glo_ok X G (c.fact 11 (f := fa11) rfl)
  have T_gk_Signs : mg "Signs" = some (.ref (He.ga K "Signs")) := He.glo_ok X G (c.fact 12 (f := fa12) rfl)
  have T_k_Signs : Cls K (He.ga K "Signs") := He.cls_ok (c.fact 13 (f := fa13) rfl)
  have T_mk_Signs : Mk K (He.ga K "Signs") (He.ma K (He.ga K "Signs") "__init__") := He.mkr_ok (c.fact 14 (f := fa14) rfl)
  have T_g__law_fits : mg "_law_fits" = some (.ref (He.ga K "_law_fits")) := He.glo_ok X G (c.fact 15 (f := fa15) rfl)
  have T_g__law_longest : mg "_law_longest" = some (.ref (He.ga K "_law_longest")) := He.glo_ok X G (c.fact 16 (f := fa16) rfl)
  have T_g__law_same : mg "_law_same" = some (.ref (He.ga K "_law_same")) := He.glo_ok X G (c.fact 17 (f := fa17) rfl)
  have T_m_Book_drop : Meth K (He.ga K "Book") "drop" (He.ma K (He.ga K "Book") "drop") := He.meth_ok (c.fact 18 (f := fa18) rfl)
  have T_m_Book_match : Meth K (He.ga K "Book") "match" (He.ma K (He.ga K "Book") "match") := He.meth_ok (c.fact 19 (f := fa19) rfl)
  have T_n_abs : mg "abs" = none := He.free_ok X G (c.fact 20 (f := fa20) rfl)
  have T_n_all : mg "all" = none := He.free_ok X G (c.fact 21 (f := fa21) rfl)
  have T_n_bool : mg "bool" = none := He.free_ok X G (c.fact 22 (f := fa22) rfl)
  have T_n_int : mg "int" = none := He.free_ok X G (c.fact 23 (f := fa23) rfl)
  have T_n_isinstance : mg "isinstance" = none := He.free_ok X G (c.fact 24 (f := fa24) rfl)
  have T_n_iter : mg "iter" = none := He.free_ok X G (c.fact 25 (f := fa25) rfl)
  have T_n_len : mg "len" = none := He.free_ok X G (c.fact 26 (f := fa26) rfl)
  have T_n_list : mg "list" = none := He.free_ok X G (c.fact 27 (f := fa27) rfl)
  have T_n_range : mg "range" = none := He.free_ok X G (c.fact 28 (f := fa28) rfl)
  have T_n_set : mg "set" = none := He.free_ok X G (c.fact 29 (f := fa29) rfl)
  have T_n_sorted : mg "sorted" = none := He.free_ok X G (c.fact 30 (f := fa30) rfl)
  have T_n_str : mg "str" = none := He.free_ok X G (c.fact 31 (f := fa31) rfl)
  have T_n_super : mg "super" = none := He.free_ok X G (c.fact 32 (f := fa32) rfl)
  have T_n_tuple : mg "tuple" = none := He.free_ok X G (c.fact 33 (f := fa33) rfl)
  have T_c_LOWER : ∃ t, mg "LOWER" = some (.str "abcdefghijklmnopqrstuvwxyz" t) := He.str_ok X G (c.fact 34 (f := fa34) rfl)
  have T_c_UPPER : ∃ t, mg "UPPER" = some (.str "ABCDEFGHIJKLMNOPQRSTUVWXYZ" t) := He.str_ok X G (c.fact 35 (f := fa35) rfl)
  have T_c_DIGITS : ∃ t, mg "DIGITS" = some (.str "0123456789" t) := He.str_ok X G (c.fact 36 (f := fa36) rfl)
  have T_us_NoRow : ∃ fd, DX.FunS PP K "NoRow.__init__" (defArgs (inClass (top 6) 0)) (defBody (inClass (top 6) 0)) (defScope (inClass (top 6) 0)) (He.ga K "NoRow") (He.ma K (He.ga K "NoRow") "__init__") fd := c.ini 0 (d := fs0) (P := PP) rfl rfl
  have T_tp : (PP.main.scope.names.lookup ("super" : Str)).isSome = false := by kernel_rfl
  have T_sup_NoRow : supB K (He.ga K "NoRow") (He.ga K "NoRow") = true := (c.fb 0 (f := fb0) rfl)
  have T_ini_NoRow : initB K (He.ga K "NoRow") (He.ga K "NoRow") = true := (c.fb 1 (f := fb1) rfl)
  have T_u_Book_getitem : ∃ fd, FunD K "__getitem__" "Book.__getitem__" (defArgs (inClass (top 17) 7)) (defBody (inClass (top 17) 7)) (defScope (inClass (top 17) 7)) [] [] (He.ma K (He.ga K "Book") "__getitem__") fd := c.def_ 0 (d := fn0) rfl
  have T_u_Book_iter : ∃ fd, FunD K "__iter__" "Book.__iter__" (defArgs (inClass (top 17) 5)) (defBody (inClass (top 17) 5)) (defScope (inClass (top 17) 5)) [] [] (He.ma K (He.ga K "Book") "__iter__") fd := c.def_ 1 (d := fn1) rfl
  have T_u_Book_setitem : ∃ fd, FunD K "__setitem__" "Book.__setitem__" (defArgs (inClass (top 17) 8)) (defBody (inClass (top 17) 8)) (defScope (inClass (top 17) 8)) [] [] (He.ma K (He.ga K "Book") "__setitem__") fd := c.def_ 2 (d := fn2) rfl
  have T_u__law_draws : ∃ fd, FunD K "_law_draws" "_law_draws" (defArgs (top 20)) (defBody (top 20)) (defScope (top 20)) [] [] (He.ga K "_law_draws") fd := c.def_ 3 (d := fn3) rfl
  have T_u_Book_init : ∃ fd, FunD K "__init__" "Book.__init__" (defArgs (inClass (top 17) 1)) (defBody (inClass (top 17) 1)) (defScope (inClass (top 17) 1)) [] [] (He.ma K (He.ga K "Book") "__init__") fd := c.def_ 4 (d := fn4) rfl
  have T_u__law_cell : ∃ fd, FunD K "_law_cell" "_law_cell" (defArgs (top 19)) (defBody (top 19)) (defScope (top 19)) [] [] (He.ga K "_law_cell") fd := c.def_ 5 (d := fn5) rfl
  have T_us_SymbolError : ∃ fd, DX.FunS PP K "SymbolError.__init__" (defArgs (inClass (top 5) 0)) (defBody (inClass (top 5) 0)) (defScope (inClass (top 5) 0)) (He.ga K "SymbolError") (He.ma K (He.ga K "SymbolError") "__init__") fd := c.ini 1 (d := fs1) (P := PP) rfl rfl
  have T_sup_SymbolError : supB K (He.ga K "SymbolError") (He.ga K "SymbolError") = true := (c.fb 2 (f := fb2) rfl)
  have T_ini_SymbolError : initB K (He.ga K "SymbolError") (He.ga K "SymbolError") = true := (c.fb 3 (f := fb3) rfl)
  have T_u_is_word : ∃ fd, FunD K "is_word" "is_word" (defArgs (top 11)) (defBody (top 11)) (defScope (top 11)) [] [] (He.ga K "is_word") fd := c.def_ 6 (d := fn6) rfl
  have T_u_is_sign : ∃ fd, FunD K "is_sign" "is_sign" (defArgs (top 12)) (defBody (top 12)) (defScope (top 12)) [] [] (He.ga K "is_sign") fd := c.def_ 7 (d := fn7) rfl
  have T_cv_Signs_END : CCon K mg "Signs" "END" (.str "$") := cvS_ok T_gk_Signs (c.fb 4 (f := fb4) rfl)
  have T_u_Signs_init : ∃ fd, FunD K "__init__" "Signs.__init__" (defArgs (inClass (top 13) 1)) (defBody (inClass (top 13) 1)) (defScope (inClass (top 13) 1)) [] [] (He.ma K (He.ga K "Signs") "__init__") fd := c.def_ 8 (d := fn8) rfl
  have T_u__law_fits : ∃ fd, FunD K "_law_fits" "_law_fits" (defArgs (top 22)) (defBody (top 22)) (defScope (top 22)) [] [] (He.ga K "_law_fits") fd := c.def_ 9 (d := fn9) rfl
  have T_u__law_longest : ∃ fd, FunD K "_law_longest" "_law_longest" (defArgs (top 23)) (defBody (top 23)) (defScope (top 23)) [] [] (He.ga K "_law_longest") fd := c.def_ 10 (d := fn10) rfl
  have T_u__law_same : ∃ fd, FunD K "_law_same" "_law_same" (defArgs (top 21)) (defBody (top 21)) (defScope (top 21)) [] [] (He.ga K "_law_same") fd := c.def_ 11 (d := fn11) rfl
  have T_u_Book_drop : ∃ fd, FunD K "drop" "Book.drop" (defArgs (inClass (top 17) 10)) (defBody (inClass (top 17) 10)) (defScope (inClass (top 17) 10)) [] [] (He.ma K (He.ga K "Book") "drop") fd := c.def_ 12 (d := fn12) rfl
  have T_cr_Book : crB K (He.ga K "Book") = true := (c.fb 5 (f := fb5) rfl)
  have T_sm_Book_fits : smB K (He.ga K "Book") "fits" = true := (c.fb 6 (f := fb6) rfl)
  have T_u_Book_fits : ∃ fd, FunD K "fits" "Book.fits" (defArgs (inClass (top 17) 3)) (defBody (inClass (top 17) 3)) (defScope (inClass (top 17) 3)) [] [] (smA K (He.ga K "Book") "fits") fd := c.rec 0 (d := fc0) rfl
  have T_u_Book_match : ∃ fd, FunD K "match" "Book.match" (defArgs (inClass (top 17) 11)) (defBody (inClass (top 17) 11)) (defScope (inClass (top 17) 11)) [] [] (He.ma K (He.ga K "Book") "match") fd := c.def_ 13 (d := fn13) rfl
  have T_fq_Book_setitem : fnSq K (He.ga K "Book") "__setitem__" = true := (c.fb 7 (f := fb7) rfl)
  have T_na : noatTab K [("NoRow", "tops"), ("Book", "rows"), ("SymbolError", "symbol"), ("Signs", "words")] = true := (c.fb 8 (f := fb8) rfl)
  exact ⟨T_gk_NoRow, T_k_Book, T_gk_Book, T_m_Book_getitem, T_m_Book_iter, T_m_Book_setitem, T_g__law_draws, T_mk_Book, T_g__law_cell, T_gk_SymbolError, T_g_is_word, T_g_is_sign, T_gk_Signs, T_k_Signs, T_mk_Signs, T_g__law_fits, T_g__law_longest, T_g__law_same, T_m_Book_drop, T_m_Book_match, T_n_abs, T_n_all, T_n_bool, T_n_int, T_n_isinstance, T_n_iter, T_n_len, T_n_list, T_n_range, T_n_set, T_n_sorted, T_n_str, T_n_super, T_n_tuple, T_c_LOWER, T_c_UPPER, T_c_DIGITS, T_us_NoRow, T_tp, T_sup_NoRow, T_ini_NoRow, T_u_Book_getitem, T_u_Book_iter, T_u_Book_setitem, T_u__law_draws, T_u_Book_init, T_u__law_cell, T_us_SymbolError, T_sup_SymbolError, T_ini_SymbolError, T_u_is_word, T_u_is_sign, T_cv_Signs_END, T_u_Signs_init, T_u__law_fits, T_u__law_longest, T_u__law_same, T_u_Book_drop, T_cr_Book, T_sm_Book_fits, T_u_Book_fits, T_u_Book_match, T_fq_Book_setitem, T_na⟩
theorem law_fd {w : World} {K : PySem.W.Frag} {h : Heap} {mg : Str → Option Value} {f : Addr} (X : K.In h) (G : h.Ns mainGlobals mg) (hfa : mg ("law" : Str) = some (.ref f)) (c : SaysE ask K) :
    ∃ fd : FuncData, (∀ (s : Shared) (v : Value), BindsTo s fd ⟨[v], []⟩ [("_law_script", v)]) ∧ ∀ base : Heap, K.In base → base.Ns mainGlobals mg → FnOk PP w K mg base (L2.CX PP w) 11 f fd ["_law_script"] (spD ⟨K, CC clsL K⟩ 1 F_law) := by
  obtain ⟨fd, U⟩ := c.def_ 14 (d := fn14) rfl
  have e := hfa.symm.trans (He.glo_ok X G (c.fact 37 (f := fa37) rfl))
  cases e
  have b := FunD.bindsA (ps := ["_law_script"]) U fun _ _ _ _ _ _ us hl => match us, hl with | [_], _ => rfl
  exact ⟨fd, fun s v => b s [v] rfl, fun base _ _ => all_law (facts X G c) U⟩
end LW.K33
open PySem PySem.W PySem.Calls PyProof.Rows
theorem PySem.Challenge.cw_awaitbook_k33_the_row_that_applies_holds : PySem.Challenge.rw_awaitbook_k33_the_row_that_applies.Holds := by
  w_on; o_law
  refine HandSHeadRun.head_any (r := OpenLaw.row PySem.Challenge.rw_awaitbook_k33_the_row_that_applies) (q := view (OpenLaw.row PySem.Challenge.rw_awaitbook_k33_the_row_that_applies).prog [24]) (H := LW.K33.hk) (ob := LW.K33.ob) (M := 20000) (loose := LW.K33.loose) (d := HandSHeadRun.topDef (OpenLaw.row PySem.Challenge.rw_awaitbook_k33_the_row_that_applies).prog 24) (kwd := []) LW.K33.ob_eq
    (by kernel_rfl) (fun s => by kernel_rfl) LW.K33.run (by kernel_rfl) (by kernel_rfl) (by kernel_rfl) (by rfl) (by first | assumption | decide +kernel) (by decide +kernel) ⟨rfl, rfl, rfl, rfl, rfl, by decide +kernel⟩ ?hw ?hc
  case hw => w_witness2
  case hc =>
    refine DL.law_end (l := PySem.Challenge.rw_awaitbook_k33_the_row_that_applies) (k := 11) (x := "_law_script") (F := LW.K33.F_law) (C := fun K => DL.CC LW.K33.clsL K) rfl (by kernel_rfl) ⟨rfl, by decide, by decide⟩ LW.K33.ev_law ?H
    intro w mg fa h Y G hmg0
    obtain ⟨K, KX, c⟩ := Y
    have hmg : mg ("law" : PySem.Str) = some (.ref fa) := by
      have e : (HandSHeadRun.topDef (OpenLaw.row PySem.Challenge.rw_awaitbook_k33_the_row_that_applies).prog 24).name = ("law" : PySem.Str) := by kernel_rfl
      rw [← e]
      exact hmg0
    obtain ⟨fd, hb, hF⟩ := LW.K33.law_fd (w := w) KX G hmg c
    exact ⟨K, fd, KX, hb, hF⟩
