import PyProof.Rows.All
import Wide.All
import OpenK.AllK
import Wide.FinOn
import KE.KStateDown
import HandS.ForMost
import HandS.Exc
import HandS.ExcOwn
import HandS.TryOnly
import HandS.TryMany
import HandS.More
import HandS.Style
import HandS.TupAny
import HandS.TupMul
import HandS.TupLe
import HandS.Wide
import HandS.Walk
import HandS.Defaults
import HandS.WordsExc
import HandS.Lambda
import HandS.EndTab
import HandS.HeadWalk
import HandS.Head0
import HandS.Head1
import HandS.Head2
import HandS.HeadHook1
import HandS.HeadHook2
import HandS.HeadHook3
import HandS.HeadHook4
import HandS.Zip
import KE.GoesMore
import KE.GoesEnum
import PyProof.ListRange
import HandS.ExcCtx
import HandS.Hot
import HandS.HotCalls
import HandS.SuiteRaise
import HandS.RaiseFrom
import HandS.AnyAll
import HandS.JoinGen
import HandS.GenList
import HandS.IsInst
import HandS.Text
import HandS.FStr
import HandS.RaiseMore
import HandS.ReplaceLit
import HandS.Dict
import KE.DataEq
import KE.IntTextLaws
import PySem.Challenge.RW_tablestack_k07_nested_rows_as_text
set_option Elab.async false
set_option linter.all false
set_option autoImplicit false
set_option maxRecDepth 100000
set_option maxHeartbeats 0
/-! A program logic over data, above the readings of the hand layer: values are told as data (D), slots as an environment of data (En); heaps stay within this file. -/
namespace Ts
open PySem L2

/-! ### data -/
inductive D where
  | non | bl (b : Bool) | int (i : Int) | str (x : Str) | lst (xs : List D) | tup (xs : List D) | obj (C : Addr) (fs : List (Str × D))

/-- all but tables of code objects stay -/
def Exx (H H' : Hp) : Prop := ∀ a o, H a = some o → (∀ ps, o ≠ HO.tbl ps) → H' a = some o
theorem Exx.refl (H : Hp) : Exx H H := fun _ _ h _ => h
theorem Exx.trans {H H1 H2 : Hp} (a : Exx H H1) (b : Exx H1 H2) : Exx H H2 := fun x o h n => b x o (a x o h n) n
theorem Exx.l {H H' : Hp} (e : Exx H H') {a : Addr} {xs : List V} (h : H a = some (.lst xs)) : H' a = some (.lst xs) := e a _ h (fun _ z => nomatch z)
theorem Exx.i {H H' : Hp} (e : Exx H H') {a C dx : Addr} {vs : List (Str × V)} (h : H a = some (.ins C dx vs)) : H' a = some (.ins C dx vs) := e a _ h (fun _ z => nomatch z)
abbrev Tb : Type := List (Addr × Str)
abbrev Qd : Type := Option Addr
/-- the tables of code objects that grow: those of lambdas and of generator expressions, each with the name that its code objects bear -/
class Tt where
  tb : Tb
variable [Tt]
/-- the tables stand -/
def TbOk (H : Hp) : Prop := LamX.Tabs Tt.tb H

mutual
/-- v stands for d, over what is frozen: G -/
inductive Rp (K : PySem.W.Frag) (G : Hp) : V → D → Prop
  | non : Rp K G .non .non
  | bl (b : Bool) : Rp K G (.bl b) (.bl b)
  | int (i : Int) : Rp K G (.int i) (.int i)
  | str (x : Str) : Rp K G (.str x) (.str x)
  | lst {a : Addr} {xs : List V} {ds : List D} : G a = some (.lst xs) → RpL K G xs ds → Rp K G (.ref a) (.lst ds)
  | tup {a : Addr} {xs : List V} {ds : List D} : SqT K G a xs → RpL K G xs ds → Rp K G (.ref a) (.tup ds)
  | obj {a C dx : Addr} {vs : List (Str × V)} {fs : List (Str × D)} : G a = some (.ins C dx vs) → RpF K G vs fs → Rp K G (.ref a) (.obj C fs)
inductive RpL (K : PySem.W.Frag) (G : Hp) : List V → List D → Prop
  | nil : RpL K G [] []
  | cons {v : V} {vs : List V} {d : D} {ds : List D} : Rp K G v d → RpL K G vs ds → RpL K G (v :: vs) (d :: ds)
inductive RpF (K : PySem.W.Frag) (G : Hp) : List (Str × V) → List (Str × D) → Prop
  | nil : RpF K G [] []
  | cons {f : Str} {v : V} {vs : List (Str × V)} {d : D} {ds : List (Str × D)} : Rp K G v d → RpF K G vs ds → RpF K G ((f, v) :: vs) ((f, d) :: ds)
end

theorem rd_ex {H H' : Hp} {a : Addr} {u : HO} (e : Exx H H') (n : ∀ ps, u ≠ HO.tbl ps) (h : Rd H a u) : Rd H' a u := by
  rcases h with h | ⟨o, h⟩
  · exact Or.inl (e a _ h n)
  · exact Or.inr ⟨o, e a _ h (fun _ z => nomatch z)⟩
theorem sl_ex {K : PySem.W.Frag} {H H' : Hp} {a : Addr} {xs : List V} (e : Exx H H') (h : SqL K H a xs) : SqL K H' a xs := by
  rcases h with h | h
  · exact Or.inl (rd_ex e (fun _ z => nomatch z) h)
  · exact Or.inr h
theorem st_ex {K : PySem.W.Frag} {H H' : Hp} {a : Addr} {xs : List V} (e : Exx H H') (h : SqT K H a xs) : SqT K H' a xs := by
  rcases h with h | h
  · exact Or.inl (rd_ex e (fun _ z => nomatch z) h)
  · exact Or.inr h
mutual
theorem Rp.ex {K : PySem.W.Frag} {G G' : Hp} (e : Exx G G') : ∀ {v : V} {d : D}, Rp K G v d → Rp K G' v d
  | _, _, .non => .non
  | _, _, .bl b => .bl b
  | _, _, .int i => .int i
  | _, _, .str x => .str x
  | _, _, .lst h r => .lst (e.l h) (RpL.ex e r)
  | _, _, .tup h r => .tup (st_ex e h) (RpL.ex e r)
  | _, _, .obj h r => .obj (e.i h) (RpF.ex e r)
theorem RpL.ex {K : PySem.W.Frag} {G G' : Hp} (e : Exx G G') : ∀ {vs : List V} {ds : List D}, RpL K G vs ds → RpL K G' vs ds
  | _, _, .nil => .nil
  | _, _, .cons h r => .cons (Rp.ex e h) (RpL.ex e r)
theorem RpF.ex {K : PySem.W.Frag} {G G' : Hp} (e : Exx G G') : ∀ {vs : List (Str × V)} {ds : List (Str × D)}, RpF K G vs ds → RpF K G' vs ds
  | _, _, .nil => .nil
  | _, _, .cons h r => .cons (Rp.ex e h) (RpF.ex e r)
end
section
variable {K : PySem.W.Frag} {G : Hp}
theorem Rp.int_inv {v : V} {i : Int} (h : Rp K G v (.int i)) : v = .int i := by cases h; rfl
theorem Rp.bl_inv {v : V} {b : Bool} (h : Rp K G v (.bl b)) : v = .bl b := by cases h; rfl
theorem Rp.str_inv {v : V} {x : Str} (h : Rp K G v (.str x)) : v = .str x := by cases h; rfl
theorem Rp.non_inv {v : V} (h : Rp K G v .non) : v = .non := by cases h; rfl
theorem Rp.lst_inv {v : V} {ds : List D} (h : Rp K G v (.lst ds)) : ∃ a xs, v = .ref a ∧ G a = some (.lst xs) ∧ RpL K G xs ds := by
  cases h with
  | lst h r => exact ⟨_, _, rfl, h, r⟩
theorem Rp.tup_inv {v : V} {ds : List D} (h : Rp K G v (.tup ds)) : ∃ a xs, v = .ref a ∧ SqT K G a xs ∧ RpL K G xs ds := by
  cases h with
  | tup h r => exact ⟨_, _, rfl, h, r⟩
theorem Rp.obj_inv {v : V} {C : Addr} {fs : List (Str × D)} (h : Rp K G v (.obj C fs)) : ∃ a dx vs, v = .ref a ∧ G a = some (.ins C dx vs) ∧ RpF K G vs fs := by
  cases h with
  | obj h r => exact ⟨_, _, _, rfl, h, r⟩
theorem RpL.length : ∀ {vs : List V} {ds : List D}, RpL K G vs ds → vs.length = ds.length
  | _, _, .nil => rfl
  | _, _, .cons _ r => congrArg Nat.succ (RpL.length r)
theorem RpL.get : ∀ {vs : List V} {ds : List D} {i : Nat} {d : D}, RpL K G vs ds → ds[i]? = some d → ∃ v, vs[i]? = some v ∧ Rp K G v d
  | _, _, _, _, .nil, e => by simp at e
  | _, _, 0, _, .cons r _, e => by simp at e; subst e; exact ⟨_, rfl, r⟩
  | _, _, i + 1, x, .cons _ t, e => by
    obtain ⟨u, h1, h2⟩ := RpL.get (i := i) t (by simpa using e)
    exact ⟨u, by simpa using h1, h2⟩
theorem RpL.getV : ∀ {vs : List V} {ds : List D} {i : Nat} {v : V}, RpL K G vs ds → vs[i]? = some v → ∃ d, ds[i]? = some d ∧ Rp K G v d
  | _, _, _, _, .nil, e => by simp at e
  | _, _, 0, _, .cons r _, e => by simp at e; subst e; exact ⟨_, rfl, r⟩
  | _, _, i + 1, x, .cons _ t, e => by
    obtain ⟨u, h1, h2⟩ := RpL.getV (i := i) t (by simpa using e)
    exact ⟨u, by simpa using h1, h2⟩
theorem RpL.append : ∀ {xs ys : List V} {as bs : List D}, RpL K G xs as → RpL K G ys bs → RpL K G (xs ++ ys) (as ++ bs)
  | _, _, _, _, .nil, s => s
  | _, _, _, _, .cons r t, s => .cons r (RpL.append t s)
theorem RpL.take : ∀ {xs : List V} {as : List D} (n : Nat), RpL K G xs as → RpL K G (xs.take n) (as.take n)
  | _, _, 0, _ => .nil
  | _, _, _ + 1, .nil => .nil
  | _, _, n + 1, .cons r t => .cons r (RpL.take n t)
theorem RpL.drop : ∀ {xs : List V} {as : List D} (n : Nat), RpL K G xs as → RpL K G (xs.drop n) (as.drop n)
  | _, _, 0, r => r
  | _, _, _ + 1, .nil => .nil
  | _, _, n + 1, .cons _ t => RpL.drop n t
theorem RpL.reverse : ∀ {xs : List V} {as : List D}, RpL K G xs as → RpL K G xs.reverse as.reverse
  | _, _, .nil => .nil
  | _, _, .cons r t => by
    rw [List.reverse_cons, List.reverse_cons]
    exact RpL.append (RpL.reverse t) (.cons r .nil)
theorem RpL.replicate {v : V} {d : D} (h : Rp K G v d) : ∀ n, RpL K G (List.replicate n v) (List.replicate n d)
  | 0 => .nil
  | n + 1 => .cons h (RpL.replicate h n)
theorem RpL.ints : ∀ ns : List Int, RpL K G (ns.map V.int) (ns.map D.int)
  | [] => .nil
  | n :: r => .cons (.int n) (RpL.ints r)
theorem RpL.ints_inv : ∀ {ns : List Int} {vs : List V}, RpL K G vs (ns.map D.int) → vs = ns.map V.int
  | [], _, h => by cases h; rfl
  | n :: r, _, h => by
    cases h with
    | cons a b =>
      cases a
      rw [RpL.ints_inv b]; rfl
theorem RpL.bls_inv : ∀ {ns : List Bool} {vs : List V}, RpL K G vs (ns.map D.bl) → vs = ns.map V.bl
  | [], _, h => by cases h; rfl
  | n :: r, _, h => by
    cases h with
    | cons a b =>
      cases a
      rw [RpL.bls_inv b]; rfl
theorem RpL.strs_inv : ∀ {ns : List Str} {vs : List V}, RpL K G vs (ns.map D.str) → vs = ns.map V.str
  | [], _, h => by cases h; rfl
  | n :: r, _, h => by
    cases h with
    | cons a b =>
      cases a
      rw [RpL.strs_inv b]; rfl
theorem RpF.look : ∀ {vs : List (Str × V)} {ds : List (Str × D)} {f : Str} {d : D}, RpF K G vs ds → ds.lookup f = some d → ∃ v, vs.lookup f = some v ∧ Rp K G v d
  | _, _, _, _, .nil, e => by simp at e
  | _, _, f, d, .cons (f := g) r t, e => by
    rw [List.lookup_cons] at e ⊢
    cases q : f == g with
    | true =>
      rw [q] at e
      cases e
      exact ⟨_, rfl, r⟩
    | false =>
      rw [q] at e
      exact RpF.look t e
theorem RpF.lookN : ∀ {vs : List (Str × V)} {ds : List (Str × D)} {f : Str}, RpF K G vs ds → ds.lookup f = none → vs.lookup f = none
  | _, _, _, .nil, _ => rfl
  | _, _, f, .cons (f := g) r t, e => by
    rw [List.lookup_cons] at e ⊢
    cases q : f == g with
    | true => rw [q] at e; cases e
    | false => rw [q] at e; exact RpF.lookN t e
end

/-! ### growth -/
def DiceAt (H : Hp) (a : Addr) : Prop := ∃ x y z : Int, H a = some (.lst [.int x, .int y, .int z])
/-- nothing stands at a, or a table -/
def Nt (H : Hp) (a : Addr) : Prop := ∀ o, H a = some o → ∃ ps, o = HO.tbl ps
theorem Nt.of {H : Hp} {a : Addr} (h : H a = none) : Nt H a := fun o e => by rw [h] at e; cases e
theorem Nt.l {H : Hp} {a : Addr} {xs : List V} (n : Nt H a) (h : H a = some (.lst xs)) : False := by
  obtain ⟨ps, e⟩ := n _ h
  cases e
/-- tables and code objects stand -/
def Tbd (H H' : Hp) : Prop := TbOk H → TbOk H'
theorem Tbd.refl (H : Hp) : Tbd H H := fun h => h
theorem Tbd.of {H H' : Hp} (h : ∀ b o, H b = some o → (∀ xs, o ≠ HO.lst xs) → H' b = some o) : Tbd H H' := fun t p hp => by
  obtain ⟨ps, h1, h2, h3⟩ := t p hp
  refine ⟨ps, h _ _ h1 (fun _ z => nomatch z), h2, fun pos cv hc => ?_⟩
  obtain ⟨c, e1, e2⟩ := h3 pos cv hc
  exact ⟨c, e1, h _ _ e2 (fun _ z => nomatch z)⟩
theorem Tbd.new {H : Hp} {p : Addr} {o : HO} (hp : H p = none) : Tbd H (upd H p o) := .of fun b u e _ => by rw [upd_ne (ne_of_none e hp)]; exact e
theorem Tbd.chg {H : Hp} {p : Addr} {xs : List V} {o : HO} (hp : H p = some (.lst xs)) : Tbd H (upd H p o) := .of fun b u e n => by
  have : b ≠ p := fun z => by
    rw [z, hp] at e
    exact n xs (Option.some.inj e).symm
  rw [upd_ne this]; exact e
/-- from (G, H) to (G', H'): G frozen; what H knew stands (but the dice and the tables at q); what G' knows besides is new -/
structure Gr (q : Qd) (G H G' H' : Hp) : Prop where
  ex : Exx G G'
  nw : ∀ a o, G' a = some o → G a = some o ∨ Nt H a
  sub : Exx G' H'
  keep : ∀ a o, (q ≠ some a) → H a = some o → (∀ ps, o ≠ HO.tbl ps) → H' a = some o
  tk : Tbd H H'
  dq : ∀ a, q = some a → DiceAt H a → DiceAt H' a
theorem Gr.refl {q : Qd} {G H : Hp} (h : Exx G H) : Gr q G H G H := ⟨Exx.refl G, fun _ _ e => .inl e, h, fun _ _ _ e _ => e, Tbd.refl H, fun _ _ e => e⟩
theorem Gr.live {q : Qd} {G H G' H' : Hp} (g : Gr q G H G' H') (hq : ∀ a, q = some a → DiceAt H a) {a : Addr} (h : Nt H' a) : Nt H a := fun o e => by
  by_cases n : ∃ ps, o = HO.tbl ps
  · exact n
  · by_cases c : q = some a
    · obtain ⟨x, y, z, d⟩ := g.dq a c (hq a c)
      exact (h.l d).elim
    · obtain ⟨ps, z⟩ := h o (g.keep a o c e (fun ps z => n ⟨ps, z⟩))
      exact ⟨ps, z⟩
theorem Gr.trans {q : Qd} {G H G1 H1 G2 H2 : Hp} (a : Gr q G H G1 H1) (b : Gr q G1 H1 G2 H2) (hq : ∀ a, q = some a → DiceAt H a) : Gr q G H G2 H2 where
  ex := a.ex.trans b.ex
  nw := fun x o e => by
    rcases b.nw x o e with h | h
    · exact a.nw x o h
    · exact .inr (a.live hq h)
  sub := b.sub
  keep := fun x o c e n => b.keep x o c (a.keep x o c e n) n
  tk := fun t => b.tk (a.tk t)
  dq := fun x c e => b.dq x c (a.dq x c e)
theorem Gr.kl {q : Qd} {G H G' H' : Hp} (g : Gr q G H G' H') {a : Addr} {xs : List V} (n : q ≠ some a) (h : H a = some (.lst xs)) : H' a = some (.lst xs) := g.keep a _ n h (fun _ z => nomatch z)
/-- a growth that keeps all keeps the dice -/
theorem Gr.any {q : Qd} {G H G' H' : Hp} (a : Gr none G H G' H') : Gr q G H G' H' where
  ex := a.ex
  nw := a.nw
  sub := a.sub
  keep := fun x o _ e n => a.keep x o (by simp) e n
  tk := a.tk
  dq := fun x _ ⟨i, j, k, e⟩ => ⟨i, j, k, a.kl (by simp) e⟩
/-- a new frozen object -/
theorem Gr.new {G H : Hp} {p : Addr} {o : HO} (h : Exx G H) (hp : H p = none) (nt : ∀ ps, o ≠ HO.tbl ps := by exact fun _ z => nomatch z) : Gr none G H (upd G p o) (upd H p o) where
  ex := fun a u e n => by
    have : a ≠ p := fun z => by subst z; rw [h a u e n] at hp; cases hp
    rw [upd_ne this]; exact e
  nw := fun a u e => by
    by_cases c : a = p
    · subst c; exact .inr (.of hp)
    · rw [upd_ne c] at e; exact .inl e
  sub := fun a u e n => by
    by_cases c : a = p
    · subst c; rw [upd_same] at e ⊢; exact e
    · rw [upd_ne c] at e ⊢; exact h a u e n
  keep := fun a u _ e _ => by rw [upd_ne (ne_of_none e hp)]; exact e
  tk := .new hp
  dq := fun _ q => nomatch q

/-! ### environments -/
/-- what changes: a list, an instance -/
inductive Mu where
  | lst (ds : List D)
  | ins (a C : Addr) (fs : List (Str × D))
inductive Sl where
  /-- no value, or none that matters -/
  | no
  /-- a datum -/
  | dat (d : D)
  /-- a thing of this def's own that changes -/
  | mu (m : Mu)
  /-- the dice -/
  | dice
/-- a list of this def's own, still growing -/
abbrev Sl.own (ds : List D) : Sl := .mu (.lst ds)
/-- an instance of this def's own -/
abbrev Sl.ins (a C : Addr) (fs : List (Str × D)) : Sl := .mu (.ins a C fs)
abbrev En := List Sl
inductive RpM (K : PySem.W.Frag) (G : Hp) : Addr → HO → Mu → Prop
  | lst {p : Addr} {vs : List V} {ds : List D} : RpL K G vs ds → RpM K G p (.lst vs) (.lst ds)
  | ins {p C dx : Addr} {vs : List (Str × V)} {fs : List (Str × D)} : RpF K G vs fs → RpM K G p (.ins C dx vs) (.ins p C fs)
theorem RpM.ex {K : PySem.W.Frag} {G G' : Hp} {p : Addr} {o : HO} {m : Mu} (r : RpM K G p o m) (e : Exx G G') : RpM K G' p o m := by
  cases r with
  | lst r => exact .lst (r.ex e)
  | ins r => exact .ins (r.ex e)
theorem RpM.nt {K : PySem.W.Frag} {G : Hp} {p : Addr} {o : HO} {m : Mu} (r : RpM K G p o m) : ∀ ps, o ≠ HO.tbl ps := by
  cases r <;> exact fun _ z => nomatch z
structure Rs (K : PySem.W.Frag) (q : Qd) (H0 G H : Hp) (σ : L2.St) (Δ : En) : Prop where
  sub : Exx G H
  len : σ.length = Δ.length
  gq : ∀ a, q = some a → Nt G a ∧ DiceAt H a
  tb : TbOk H
  dat : ∀ (i : Nat) (d : D), Δ[i]? = some (Sl.dat d) → ∃ v, σ[i]? = some (some v) ∧ Rp K G v d
  mu : ∀ (i : Nat) (m : Mu), Δ[i]? = some (Sl.mu m) → ∃ (p : Addr) (o : HO), σ[i]? = some (some (V.ref p)) ∧ H p = some o ∧ RpM K G p o m ∧ Nt G p ∧ Nt H0 p ∧ q ≠ some p
  difm : ∀ (i j : Nat) (m n : Mu) (p : Addr), Δ[i]? = some (Sl.mu m) → Δ[j]? = some (Sl.mu n) → σ[i]? = some (some (V.ref p)) → σ[j]? = some (some (V.ref p)) → i = j
  dice : ∀ (i : Nat), Δ[i]? = some Sl.dice → ∃ a : Addr, q = some a ∧ σ[i]? = some (some (V.ref a))
theorem Rs.own {K : PySem.W.Frag} {q : Qd} {H0 G H : Hp} {σ : L2.St} {Δ : En} (r : Rs K q H0 G H σ Δ) (i : Nat) (ds : List D) (e : Δ[i]? = some (Sl.own ds)) : ∃ (p : Addr) (vs : List V), σ[i]? = some (some (V.ref p)) ∧ H p = some (.lst vs) ∧ RpL K G vs ds ∧ Nt G p ∧ Nt H0 p ∧ q ≠ some p := by
  obtain ⟨p, o, h1, h2, h3, h4⟩ := r.mu i _ e
  cases h3 with
  | lst h3 => exact ⟨p, _, h1, h2, h3, h4⟩
theorem Rs.dif {K : PySem.W.Frag} {q : Qd} {H0 G H : Hp} {σ : L2.St} {Δ : En} (r : Rs K q H0 G H σ Δ) (i j : Nat) (ds es : List D) (p : Addr) (h1 : Δ[i]? = some (Sl.own ds)) (h2 : Δ[j]? = some (Sl.own es)) (h3 : σ[i]? = some (some (V.ref p))) (h4 : σ[j]? = some (some (V.ref p))) : i = j := r.difm i j _ _ p h1 h2 h3 h4
/-- the state: grown from the entry (G0, H0), its slots told by Δ -/
structure Sta (K : PySem.W.Frag) (q : Qd) (G0 H0 G H : Hp) (σ : L2.St) (Δ : En) : Prop where
  gr : Gr q G0 H0 G H
  hq : ∀ a, q = some a → DiceAt H0 a
  rs : Rs K q H0 G H σ Δ

section
variable {K : PySem.W.Frag} {q : Qd} {G0 H0 G H G' H' : Hp} {σ : L2.St} {Δ : En}
theorem Gr.unm (g : Gr q G H G' H') {p : Addr} {u : HO} (n : Nt G p) (h : H p = some u) (nt : ∀ ps, u ≠ HO.tbl ps) : Nt G' p := fun o e => by
  rcases g.nw p o e with z | z
  · exact n o z
  · obtain ⟨ps, y⟩ := z _ h
    exact (nt ps y).elim
theorem Gr.un (g : Gr q G H G' H') {p : Addr} {xs : List V} (n : Nt G p) (h : H p = some (.lst xs)) : Nt G' p := g.unm n h fun _ z => nomatch z
/-- the state behind a growth that may turn the dice -/
theorem Sta.go (s : Sta K q G0 H0 G H σ Δ) (g : Gr q G H G' H') : Sta K q G0 H0 G' H' σ Δ := by
  refine ⟨s.gr.trans g s.hq, s.hq, g.sub, s.rs.len, fun a e => ?_, g.tk s.rs.tb, fun i d e => ?_, fun i ds e => ?_, s.rs.difm, s.rs.dice⟩
  · obtain ⟨h1, h2⟩ := s.rs.gq a e
    obtain ⟨x, y, z, h3⟩ := id h2
    exact ⟨g.un h1 h3, g.dq a e h2⟩
  · obtain ⟨v, h1, h2⟩ := s.rs.dat i d e
    exact ⟨v, h1, h2.ex g.ex⟩
  · obtain ⟨p, o, h1, h2, h3, h4, h5, h6⟩ := s.rs.mu i ds e
    exact ⟨p, o, h1, g.keep p o h6 h2 h3.nt, h3.ex g.ex, g.unm h4 h2 h3.nt, h5, h6⟩
theorem Sta.pure (s : Sta K q G0 H0 G H σ Δ) (g : Gr none G H G' H') : Sta K q G0 H0 G' H' σ Δ := s.go g.any
theorem Sta.sub (s : Sta K q G0 H0 G H σ Δ) : Exx G H := s.rs.sub
theorem Sta.dq (s : Sta K q G0 H0 G H σ Δ) : ∀ a, q = some a → DiceAt H a := fun a e => (s.rs.gq a e).2
theorem Sta.rf (s : Sta K q G0 H0 G H σ Δ) : Gr q G H G H := Gr.refl s.sub
theorem Sta.tr {G1 H1 G2 H2 : Hp} (s : Sta K q G0 H0 G H σ Δ) (g1 : Gr q G H G1 H1) (g2 : Gr q G1 H1 G2 H2) : Gr q G H G2 H2 := g1.trans g2 s.dq
/-- the state at an entry -/
theorem Sta.start {G H : Hp} {σ : L2.St} {Δ : En} (r : Rs K q H G H σ Δ) : Sta K q G H G H σ Δ := ⟨Gr.refl r.sub, fun a e => (r.gq a e).2, r⟩
/-- a slot gets a datum -/
theorem Sta.set (s : Sta K q G0 H0 G H σ Δ) {i : Nat} {v : V} {d : D} (r : Rp K G v d) : Sta K q G0 H0 G H (σ.set i (some v)) (Δ.set i (.dat d)) := by
  refine ⟨s.gr, s.hq, s.rs.sub, by rw [List.length_set, List.length_set]; exact s.rs.len, s.rs.gq, s.rs.tb, fun j e he => ?_, fun j ds he => ?_, fun j k ds es p h1 h2 h3 h4 => ?_, fun j he => ?_⟩
  · by_cases c : i = j
    · subst c
      have hl : i < Δ.length := by
        have := (List.getElem?_eq_some_iff.mp he).1
        simpa using this
      rw [List.getElem?_set_self hl] at he
      cases he
      exact ⟨v, List.getElem?_set_self (by rw [s.rs.len]; exact hl), r⟩
    · rw [List.getElem?_set_ne c] at he ⊢
      exact s.rs.dat j e he
  · by_cases c : i = j
    · subst c
      have hl : i < Δ.length := by
        have := (List.getElem?_eq_some_iff.mp he).1
        simpa using this
      rw [List.getElem?_set_self hl] at he
      cases he
    · rw [List.getElem?_set_ne c] at he ⊢
      exact s.rs.mu j ds he
  · have nj : i ≠ j := fun c => by
      subst c
      have hl : i < Δ.length := by
        have := (List.getElem?_eq_some_iff.mp h1).1
        simpa using this
      rw [List.getElem?_set_self hl] at h1; cases h1
    have nk : i ≠ k := fun c => by
      subst c
      have hl : i < Δ.length := by
        have := (List.getElem?_eq_some_iff.mp h2).1
        simpa using this
      rw [List.getElem?_set_self hl] at h2; cases h2
    rw [List.getElem?_set_ne nj] at h1 h3
    rw [List.getElem?_set_ne nk] at h2 h4
    exact s.rs.difm j k ds es p h1 h2 h3 h4
  · by_cases c : i = j
    · subst c
      have hl : i < Δ.length := by
        have := (List.getElem?_eq_some_iff.mp he).1
        simpa using this
      rw [List.getElem?_set_self hl] at he
      cases he
    · rw [List.getElem?_set_ne c] at he ⊢
      exact s.rs.dice j he
/-- forgetting slots -/
theorem Sta.weak {σ' : L2.St} {Δ' : En} (s : Sta K q G0 H0 G H σ Δ) (hl : σ'.length = Δ'.length) (w : ∀ (i : Nat) (e : Sl), Δ'[i]? = some e → e = Sl.no ∨ (Δ[i]? = some e ∧ σ'[i]? = σ[i]?)) : Sta K q G0 H0 G H σ' Δ' := by
  refine ⟨s.gr, s.hq, s.rs.sub, hl, s.rs.gq, s.rs.tb, fun j e he => ?_, fun j ds he => ?_, fun j k ds es p h1 h2 h3 h4 => ?_, fun j he => ?_⟩
  · rcases w _ _ he with c | ⟨c, c2⟩
    · cases c
    · rw [c2]; exact s.rs.dat j e c
  · rcases w _ _ he with c | ⟨c, c2⟩
    · cases c
    · rw [c2]; exact s.rs.mu j ds c
  · rcases w _ _ h1 with c | ⟨c, c2⟩
    · cases c
    · rcases w _ _ h2 with d | ⟨d, d2⟩
      · cases d
      · rw [c2] at h3
        rw [d2] at h4
        exact s.rs.difm j k ds es p c d h3 h4
  · rcases w _ _ he with c | ⟨c, c2⟩
    · cases c
    · rw [c2]; exact s.rs.dice j c
theorem Sta.setAny (s : Sta K q G0 H0 G H σ Δ) {i : Nat} {v : Option V} : Sta K q G0 H0 G H (σ.set i v) (Δ.set i .no) := by
  refine s.weak (by rw [List.length_set, List.length_set]; exact s.rs.len) fun j e he => ?_
  by_cases c : i = j
  · subst c
    have hl : i < Δ.length := by
      have := (List.getElem?_eq_some_iff.mp he).1
      simpa using this
    rw [List.getElem?_set_self hl] at he
    cases he
    exact .inl rfl
  · rw [List.getElem?_set_ne c] at he ⊢
    exact .inr ⟨he, rfl⟩
theorem Tbd.chgm {H : Hp} {p : Addr} {u o : HO} (hp : H p = some u) (hu : (∃ xs, u = .lst xs) ∨ ∃ C dx vs, u = .ins C dx vs) : Tbd H (upd H p o) := fun t p' hp' => by
  obtain ⟨ps, h1, h2, h3⟩ := t p' hp'
  have ne : ∀ {a : Addr} {w : HO}, H a = some w → (∀ xs, w ≠ .lst xs) → (∀ C dx vs, w ≠ .ins C dx vs) → a ≠ p := fun {a w} e q1 q2 z => by
    rw [z, hp] at e
    have e := Option.some.inj e
    rcases hu with ⟨xs, rfl⟩ | ⟨C, dx, vs, rfl⟩
    · exact q1 xs e.symm
    · exact q2 C dx vs e.symm
  refine ⟨ps, by rw [upd_ne (ne h1 (fun _ z => nomatch z) fun _ _ _ z => nomatch z)]; exact h1, h2, fun pos cv hc => ?_⟩
  obtain ⟨c, e1, e2⟩ := h3 pos cv hc
  exact ⟨c, e1, by rw [upd_ne (ne e2 (fun _ z => by unfold LamX.CodeO at z; cases z) fun _ _ _ z => by unfold LamX.CodeO at z; cases z)]; exact e2⟩
theorem RpM.kind {K : PySem.W.Frag} {G : Hp} {p : Addr} {o : HO} {m : Mu} (r : RpM K G p o m) : (∃ xs, o = .lst xs) ∨ ∃ C dx vs, o = .ins C dx vs := by
  cases r with
  | lst r => exact .inl ⟨_, rfl⟩
  | ins r => exact .inr ⟨_, _, _, rfl⟩
/-- a thing of one's own is changed -/
theorem Sta.changem (s : Sta K q G0 H0 G H σ Δ) {i : Nat} {p : Addr} {m n : Mu} {w : HO} (hi : Δ[i]? = some (Sl.mu m)) (hp : σ[i]? = some (some (V.ref p))) (r : RpM K G p w n) :
    Sta K q G0 H0 G (upd H p w) σ (Δ.set i (.mu n)) := by
  obtain ⟨p', o, h1, h2, h3, h4, h5, h6⟩ := s.rs.mu i m hi
  have ep : p' = p := by rw [hp] at h1; cases h1; rfl
  subst ep
  have hl : i < Δ.length := (List.getElem?_eq_some_iff.mp hi).1
  have nop : ∀ {F : Hp} {a : Addr} {o : HO}, Nt F p' → F a = some o → (∀ ps, o ≠ HO.tbl ps) → a ≠ p' := fun n e nt z => by
    rw [z] at e
    obtain ⟨ps, h⟩ := n _ e
    exact nt ps h
  have subn : Exx G (upd H p' w) := fun a o e nt => by rw [upd_ne (nop h4 e nt)]; exact s.rs.sub a o e nt
  have dn : ∀ a, q = some a → DiceAt H a → DiceAt (upd H p' w) a := fun a c ⟨x, y, z, e⟩ => by
    have : a ≠ p' := fun z => by rw [z] at c; exact h6 c
    exact ⟨x, y, z, by rw [upd_ne this]; exact e⟩
  refine ⟨⟨s.gr.ex, s.gr.nw, subn, fun a o c e nt => ?_, fun t => Tbd.chgm h2 h3.kind (s.gr.tk t), fun a c d => dn a c (s.gr.dq a c d)⟩, s.hq, subn, by rw [List.length_set]; exact s.rs.len, fun a c => ⟨(s.rs.gq a c).1, dn a c (s.rs.gq a c).2⟩, Tbd.chgm h2 h3.kind s.rs.tb, fun j e he => ?_, fun j bs he => ?_, fun j k bs cs p h1' h2' h3' h4' => ?_, fun j he => ?_⟩
  · rw [upd_ne (nop h5 e nt)]; exact s.gr.keep a o c e nt
  · have nj : i ≠ j := fun c => by
      subst c
      rw [List.getElem?_set_self hl] at he; cases he
    rw [List.getElem?_set_ne nj] at he
    exact s.rs.dat j e he
  · by_cases c : i = j
    · subst c
      rw [List.getElem?_set_self hl] at he
      cases he
      exact ⟨p', w, hp, upd_same, r, h4, h5, h6⟩
    · rw [List.getElem?_set_ne c] at he
      obtain ⟨p2, o2, g1, g2, g3, g4, g5, g6⟩ := s.rs.mu j bs he
      have : p2 ≠ p' := fun z => c (s.rs.difm i j m bs p' hi he hp (by rw [z] at g1; exact g1))
      exact ⟨p2, o2, g1, by rw [upd_ne this]; exact g2, g3, g4, g5, g6⟩
  · have back : ∀ {l : Nat} {as : Mu}, (Δ.set i (.mu n))[l]? = some (Sl.mu as) → ∃ as', Δ[l]? = some (Sl.mu as') := fun {l as} e => by
      by_cases c : i = l
      · subst c; exact ⟨m, hi⟩
      · rw [List.getElem?_set_ne c] at e; exact ⟨as, e⟩
    obtain ⟨b1, e1⟩ := back h1'
    obtain ⟨b2, e2⟩ := back h2'
    exact s.rs.difm j k b1 b2 p e1 e2 h3' h4'
  · have nj : i ≠ j := fun c => by
      subst c
      rw [List.getElem?_set_self hl] at he; cases he
    rw [List.getElem?_set_ne nj] at he
    exact s.rs.dice j he
/-- a growing list is changed -/
theorem Sta.change (s : Sta K q G0 H0 G H σ Δ) {i : Nat} {p : Addr} {ds es : List D} {ws : List V} (hi : Δ[i]? = some (Sl.own ds)) (hp : σ[i]? = some (some (V.ref p))) (r : RpL K G ws es) :
    Sta K q G0 H0 G (upd H p (.lst ws)) σ (Δ.set i (.own es)) := s.changem hi hp (.lst r)
/-- a new list of one's own: at p, the slot i holds it -/
theorem Sta.newMutm (s : Sta K q G0 H0 G H σ Δ) {i : Nat} {p : Addr} {ds : Mu} {w : HO} (hp : H p = none) (r : RpM K G p w ds) :
    Sta K q G0 H0 G (upd H p w) (σ.set i (some (V.ref p))) (Δ.set i (.mu ds)) := by
  have hGp : Nt G p := fun o c => Classical.byContradiction fun n => by
    rw [s.rs.sub p o c (fun ps z => n ⟨ps, z⟩)] at hp; cases hp
  have hH0 : Nt H0 p := s.gr.live s.hq (.of hp)
  have hqp : q ≠ some p := fun c => by
    obtain ⟨x, y, z, e⟩ := (s.rs.gq p c).2
    rw [hp] at e; cases e
  have nop : ∀ {F : Hp} {a : Addr} {o : HO}, Nt F p → F a = some o → (∀ ps, o ≠ HO.tbl ps) → a ≠ p := fun n e nt z => by
    rw [z] at e
    obtain ⟨ps, h⟩ := n _ e
    exact nt ps h
  have subn : Exx G (upd H p w) := fun a o e nt => by rw [upd_ne (nop hGp e nt)]; exact s.rs.sub a o e nt
  have dn : ∀ a, q = some a → DiceAt H a → DiceAt (upd H p w) a := fun a c ⟨x, y, z, e⟩ => by
    have : a ≠ p := fun z => by rw [z] at c; exact hqp c
    exact ⟨x, y, z, by rw [upd_ne this]; exact e⟩
  have len' : (σ.set i (some (V.ref p))).length = (Δ.set i (.mu ds)).length := by rw [List.length_set, List.length_set]; exact s.rs.len
  have old : ∀ {j : Nat} {e : Sl}, (Δ.set i (Sl.mu ds))[j]? = some e → (j = i ∧ e = .mu ds ∧ i < Δ.length) ∨ (j ≠ i ∧ Δ[j]? = some e ∧ (σ.set i (some (V.ref p)))[j]? = σ[j]?) := fun {j e} he => by
    by_cases c : i = j
    · subst c
      have hl : i < Δ.length := by
        have := (List.getElem?_eq_some_iff.mp he).1
        simpa using this
      rw [List.getElem?_set_self hl] at he
      cases he
      exact .inl ⟨rfl, rfl, hl⟩
    · rw [List.getElem?_set_ne c] at he
      exact .inr ⟨fun z => c z.symm, he, List.getElem?_set_ne c⟩
  refine ⟨⟨s.gr.ex, s.gr.nw, subn, fun a o c e nt => ?_, fun t => Tbd.new hp (s.gr.tk t), fun a c d => dn a c (s.gr.dq a c d)⟩, s.hq, subn, len', fun a c => ⟨(s.rs.gq a c).1, dn a c (s.rs.gq a c).2⟩, Tbd.new hp s.rs.tb, fun j e he => ?_, fun j bs he => ?_, fun j k bs cs p2 h1' h2' h3' h4' => ?_, fun j he => ?_⟩
  · rw [upd_ne (nop hH0 e nt)]; exact s.gr.keep a o c e nt
  · rcases old he with ⟨_, c, _⟩ | ⟨_, c, c2⟩
    · cases c
    · rw [c2]; exact s.rs.dat j e c
  · rcases old he with ⟨c1, c, hl⟩ | ⟨_, c, c2⟩
    · cases c
      subst c1
      exact ⟨p, w, List.getElem?_set_self (by rw [s.rs.len]; exact hl), upd_same, r, hGp, hH0, hqp⟩
    · obtain ⟨p2, vs2, g1, g2, g3, g4, g5, g6⟩ := s.rs.mu j bs c
      have : p2 ≠ p := fun z => by rw [z, hp] at g2; cases g2
      exact ⟨p2, vs2, by rw [c2]; exact g1, by rw [upd_ne this]; exact g2, g3, g4, g5, g6⟩
  · have other : ∀ {l : Nat} {as : Mu}, l ≠ i → Δ[l]? = some (Sl.mu as) → (σ.set i (some (V.ref p)))[l]? = σ[l]? → (σ.set i (some (V.ref p)))[l]? ≠ some (some (V.ref p)) := fun {l as} n e e2 z => by
      obtain ⟨p3, vs3, g1, g2, _⟩ := s.rs.mu l as e
      rw [e2, g1] at z
      cases z
      rw [hp] at g2; cases g2
    have self : ∀ {l : Nat}, l = i → i < Δ.length → (σ.set i (some (V.ref p)))[l]? = some (some (V.ref p)) := fun {l} e hl => by
      subst e
      exact List.getElem?_set_self (by rw [s.rs.len]; exact hl)
    rcases old h1' with ⟨c1, _, hl⟩ | ⟨n1, c1, e1⟩
    · rcases old h2' with ⟨c2, _, _⟩ | ⟨n2, c2, e2⟩
      · rw [c1, c2]
      · rw [self c1 hl] at h3'
        cases h3'
        exact absurd h4' (other n2 c2 e2)
    · rcases old h2' with ⟨c2, _, hl⟩ | ⟨n2, c2, e2⟩
      · rw [self c2 hl] at h4'
        cases h4'
        exact absurd h3' (other n1 c1 e1)
      · rw [e1] at h3'
        rw [e2] at h4'
        exact s.rs.difm j k bs cs p2 c1 c2 h3' h4'
  · rcases old he with ⟨_, c, _⟩ | ⟨_, c, c2⟩
    · cases c
    · rw [c2]; exact s.rs.dice j c
theorem Sta.newMut (s : Sta K q G0 H0 G H σ Δ) {i : Nat} {p : Addr} {ds : List D} {vs : List V} (hp : H p = none) (r : RpL K G vs ds) :
    Sta K q G0 H0 G (upd H p (.lst vs)) (σ.set i (some (V.ref p))) (Δ.set i (.own ds)) := s.newMutm hp (.lst r)
/-- a list of one's own is frozen -/
theorem Sta.freeze (s : Sta K q G0 H0 G H σ Δ) {i : Nat} {ds : List D} (hi : Δ[i]? = some (Sl.own ds)) : ∃ G', Exx G G' ∧ Sta K q G0 H0 G' H σ (Δ.set i (.dat (.lst ds))) := by
  obtain ⟨p, vs, h1, h2, h3, h4, h5, h6⟩ := s.rs.own i ds hi
  have hl : i < Δ.length := (List.getElem?_eq_some_iff.mp hi).1
  have nop : ∀ {F : Hp} {a : Addr} {o : HO}, Nt F p → F a = some o → (∀ ps, o ≠ HO.tbl ps) → a ≠ p := fun n e nt z => by
    rw [z] at e
    obtain ⟨ps, h⟩ := n _ e
    exact nt ps h
  have exn : Exx G (upd G p (.lst vs)) := fun a o e nt => by rw [upd_ne (nop h4 e nt)]; exact e
  have subn : Exx (upd G p (.lst vs)) H := fun a o e nt => by
    by_cases c : a = p
    · rw [c, upd_same] at e; rw [c, ← e]; exact h2
    · rw [upd_ne c] at e; exact s.rs.sub a o e nt
  refine ⟨upd G p (.lst vs), exn, ⟨s.gr.ex.trans exn, fun a o e => ?_, subn, s.gr.keep, s.gr.tk, s.gr.dq⟩, s.hq, subn, by rw [List.length_set]; exact s.rs.len, fun a c => ?_, s.rs.tb, fun j e he => ?_, fun j bs he => ?_, fun j k bs cs p2 h1' h2' h3' h4' => ?_, fun j he => ?_⟩
  · by_cases c : a = p
    · rw [c]; exact .inr h5
    · rw [upd_ne c] at e; exact s.gr.nw a o e
  · obtain ⟨e1, e2⟩ := s.rs.gq a c
    have : a ≠ p := fun z => by rw [z] at c; exact h6 c
    exact ⟨fun o e => by rw [upd_ne this] at e; exact e1 o e, e2⟩
  · by_cases c : i = j
    · subst c
      rw [List.getElem?_set_self hl] at he
      cases he
      exact ⟨.ref p, h1, .lst upd_same (h3.ex exn)⟩
    · rw [List.getElem?_set_ne c] at he
      obtain ⟨v, g1, g2⟩ := s.rs.dat j e he
      exact ⟨v, g1, g2.ex exn⟩
  · have nj : i ≠ j := fun c => by
      subst c
      rw [List.getElem?_set_self hl] at he; cases he
    rw [List.getElem?_set_ne nj] at he
    obtain ⟨p2, vs2, g1, g2, g3, g4, g5, g6⟩ := s.rs.mu j bs he
    have : p2 ≠ p := fun z => nj (s.rs.difm i j _ bs p hi he h1 (by rw [z] at g1; exact g1))
    exact ⟨p2, vs2, g1, g2, g3.ex exn, fun o e => by rw [upd_ne this] at e; exact g4 o e, g5, g6⟩
  · have nj : i ≠ j := fun c => by
      subst c
      rw [List.getElem?_set_self hl] at h1'; cases h1'
    have nk : i ≠ k := fun c => by
      subst c
      rw [List.getElem?_set_self hl] at h2'; cases h2'
    rw [List.getElem?_set_ne nj] at h1'
    rw [List.getElem?_set_ne nk] at h2'
    exact s.rs.difm j k bs cs p2 h1' h2' h3' h4'
  · have nj : i ≠ j := fun c => by
      subst c
      rw [List.getElem?_set_self hl] at he; cases he
    rw [List.getElem?_set_ne nj] at he
    exact s.rs.dice j he
end
end Ts


namespace Ts
variable [Tt]
open PySem L2

/-! ### expressions -/
section
variable (K : PySem.W.Frag) (E : L2.St → XK)
/-- te has some datum of R; it may raise one of X -/
def Ev (te : TE) (Δ : En) (R : D → Prop) (X : Addr → Prop) : Prop :=
  ∀ (q : Qd) (G0 H0 G H : Hp) (σ : L2.St) (Q : VK), Sta K q G0 H0 G H σ Δ →
    (∀ (v : V) (d : D) (G' H' : Hp), Gr q G H G' H' → Rp K G' v d → R d → Q v H') →
    (∀ (C : Addr) (G' H' : Hp), Gr q G H G' H' → X C → E σ (.ref C) none H') → te σ H Q
def Et (tt : TT) (Δ : En) (R : Bool → Prop) (X : Addr → Prop) : Prop :=
  ∀ (q : Qd) (G0 H0 G H : Hp) (σ : L2.St) (Q : Bool → Hp → Prop), Sta K q G0 H0 G H σ Δ →
    (∀ (b : Bool) (G' H' : Hp), Gr q G H G' H' → R b → Q b H') →
    (∀ (C : Addr) (G' H' : Hp), Gr q G H G' H' → X C → E σ (.ref C) none H') → tt σ H Q
def Ea (ta : TA) (Δ : En) (R : List D → Prop) (X : Addr → Prop) : Prop :=
  ∀ (q : Qd) (G0 H0 G H : Hp) (σ : L2.St) (Q : List V → Hp → Prop), Sta K q G0 H0 G H σ Δ →
    (∀ (vs : List V) (ds : List D) (G' H' : Hp), Gr q G H G' H' → RpL K G' vs ds → R ds → Q vs H') →
    (∀ (C : Addr) (G' H' : Hp), Gr q G H G' H' → X C → E σ (.ref C) none H') → ta σ H Q
def Eo (to : TO) (Δ : En) (R : Option Int → Prop) (X : Addr → Prop) : Prop :=
  ∀ (q : Qd) (G0 H0 G H : Hp) (σ : L2.St) (Q : Option Int → Hp → Prop), Sta K q G0 H0 G H σ Δ →
    (∀ (o : Option Int) (G' H' : Hp), Gr q G H G' H' → R o → Q o H') →
    (∀ (C : Addr) (G' H' : Hp), Gr q G H G' H' → X C → E σ (.ref C) none H') → to σ H Q
end
/-- operations by data: on two, on one, a call -/
def OpD (K : PySem.W.Frag) (r : R2) (x y : D) (R : D → Prop) : Prop := ∀ (G H : Hp) (v w : V) (Q : VK), Exx G H → Rp K G v x → Rp K G w y →
  (∀ (u : V) (d : D) (G' H' : Hp), Gr none G H G' H' → Rp K G' u d → R d → Q u H') → r v w H Q
def UnD (K : PySem.W.Frag) (r : V → Hp → VK → Prop) (x : D) (R : D → Prop) : Prop := ∀ (G H : Hp) (v : V) (Q : VK), Exx G H → Rp K G v x →
  (∀ (u : V) (d : D) (G' H' : Hp), Gr none G H G' H' → Rp K G' u d → R d → Q u H') → r v H Q
def CbD (K : PySem.W.Frag) (r : List V → Hp → VK → Prop) (xs : List D) (R : D → Prop) : Prop := ∀ (G H : Hp) (vs : List V) (Q : VK), Exx G H → RpL K G vs xs →
  (∀ (u : V) (d : D) (G' H' : Hp), Gr none G H G' H' → Rp K G' u d → R d → Q u H') → r vs H Q
def SlD (K : PySem.W.Frag) (r : V → Option Int → Option Int → Hp → VK → Prop) (x : D) (lo hi : Option Int) (R : D → Prop) : Prop := ∀ (G H : Hp) (v : V) (Q : VK), Exx G H → Rp K G v x →
  (∀ (u : V) (d : D) (G' H' : Hp), Gr none G H G' H' → Rp K G' u d → R d → Q u H') → r v lo hi H Q

section
variable {K : PySem.W.Frag} {E : L2.St → XK} {Δ : En} {te ta tb tc : TE} {tt tu : TT} {R Ra Rb : D → Prop} {X : Addr → Prop}
theorem Ev.mono {R' : D → Prop} {X' : Addr → Prop} (h : Ev K E te Δ R X) (hr : ∀ d, R d → R' d) (hx : ∀ C, X C → X' C) : Ev K E te Δ R' X' :=
  fun q G0 H0 G H σ Q s k kx => h q G0 H0 G H σ Q s (fun v d G' H' g r rd => k v d G' H' g r (hr d rd)) fun C G' H' g x => kx C G' H' g (hx C x)
theorem Ev.imp {R' : D → Prop} (h : Ev K E te Δ R X) (hr : ∀ d, R d → R' d) : Ev K E te Δ R' X := h.mono hr fun _ x => x
theorem Et.mono {R R' : Bool → Prop} {X' : Addr → Prop} (h : Et K E tt Δ R X) (hr : ∀ d, R d → R' d) (hx : ∀ C, X C → X' C) : Et K E tt Δ R' X' :=
  fun q G0 H0 G H σ Q s k kx => h q G0 H0 G H σ Q s (fun b G' H' g rd => k b G' H' g (hr b rd)) fun C G' H' g x => kx C G' H' g (hx C x)
theorem Et.imp {R R' : Bool → Prop} (h : Et K E tt Δ R X) (hr : ∀ d, R d → R' d) : Et K E tt Δ R' X := h.mono hr fun _ x => x
theorem Ea.imp {ta : TA} {R R' : List D → Prop} (h : Ea K E ta Δ R X) (hr : ∀ d, R d → R' d) : Ea K E ta Δ R' X :=
  fun q G0 H0 G H σ Q s k kx => h q G0 H0 G H σ Q s (fun v d G' H' g r rd => k v d G' H' g r (hr d rd)) kx
theorem ev_var {i : Nat} {d : D} (h : Δ[i]? = some (Sl.dat d)) : Ev K E (tVar i) Δ (· = d) X := fun q G0 H0 G H σ Q s k _ => by
  obtain ⟨v, h1, h2⟩ := s.rs.dat i d h
  exact ⟨v, h1, k v d G H s.rf h2 rfl⟩
theorem ev_int {i : Int} : Ev K E (tC (.int i)) Δ (· = .int i) X := fun q G0 H0 G H σ Q s k _ => k _ _ G H s.rf (.int i) rfl
theorem ev_str {x : Str} : Ev K E (tC (.str x)) Δ (· = .str x) X := fun q G0 H0 G H σ Q s k _ => k _ _ G H s.rf (.str x) rfl
theorem ev_bl {b : Bool} : Ev K E (tC (.bl b)) Δ (· = .bl b) X := fun q G0 H0 G H σ Q s k _ => k _ _ G H s.rf (.bl b) rfl
theorem ev_non : Ev K E (tC .non) Δ (· = .non) X := fun q G0 H0 G H σ Q s k _ => k _ _ G H s.rf .non rfl
/-- a constant of the module that is a tuple -/
theorem ev_ctup {a : Addr} {xs : List V} {ds : List D} (h : ∀ H, SqT K H a xs) (r : ∀ G, RpL K G xs ds) : Ev K E (tC (.ref a)) Δ (· = .tup ds) X := fun q G0 H0 G H σ Q s k _ => k _ _ G H s.rf (.tup (h G) (r G)) rfl
theorem ev_op {r : R2} (ha : Ev K E ta Δ Ra X) (hb : Ev K E tb Δ Rb X) (hr : ∀ x y, Ra x → Rb y → OpD K r x y R) : Ev K E (tOp r ta tb) Δ R X := fun q G0 H0 G H σ Q s k kx =>
  ha q G0 H0 G H σ _ s (fun v x G1 H1 g1 r1 p1 => hb q G0 H0 G1 H1 σ _ (s.go g1) (fun w y G2 H2 g2 r2 p2 =>
    hr x y p1 p2 G2 H2 v w Q g2.sub (r1.ex g2.ex) r2 fun u d G3 H3 g rd p3 => k u d G3 H3 (s.tr (s.tr g1 g2) g.any) rd p3) fun C G' H' g x => kx C G' H' (s.tr g1 g) x) kx
theorem ev_un {r : V → Hp → VK → Prop} (ha : Ev K E ta Δ Ra X) (hr : ∀ x, Ra x → UnD K r x R) : Ev K E (tUn r ta) Δ R X := fun q G0 H0 G H σ Q s k kx =>
  ha q G0 H0 G H σ _ s (fun v x G1 H1 g1 r1 p1 => hr x p1 G1 H1 v Q g1.sub r1 fun u d G3 H3 g rd p3 => k u d G3 H3 (s.tr g1 g.any) rd p3) kx
/-! the same, with one value each -/
theorem ev1_op {r : R2} {x y z : D} (ha : Ev K E ta Δ (· = x) X) (hb : Ev K E tb Δ (· = y) X) (hr : OpD K r x y (· = z)) : Ev K E (tOp r ta tb) Δ (· = z) X := ev_op ha hb fun a b e1 e2 => by subst e1; subst e2; exact hr
theorem ev1_un {r : V → Hp → VK → Prop} {x z : D} (ha : Ev K E ta Δ (· = x) X) (hr : UnD K r x (· = z)) : Ev K E (tUn r ta) Δ (· = z) X := ev_un ha fun a e1 => by subst e1; exact hr
theorem ev_is {d d' : D} (h : Ev K E te Δ (· = d) X) (e : d = d') : Ev K E te Δ (· = d') X := by subst e; exact h
/-! tests -/
theorem et_val {R : Bool → Prop} (h : Ev K E te Δ (fun d => ∃ b, d = .bl b ∧ R b) X) : Et K E (tTest te) Δ R X := fun q G0 H0 G H σ Q s k kx =>
  h q G0 H0 G H σ _ s (fun v d G1 H1 g1 r1 p1 => by
    obtain ⟨b, rfl, hb⟩ := p1
    cases r1
    exact ⟨b, rfl, k b G1 H1 g1 hb⟩) kx
theorem et_B {R : Bool → Prop} (h : Ev K E te Δ (fun d => ∃ b, d = .bl b ∧ R b) X) : Et K E (tB te) Δ R X := et_val h
theorem et1_val {b : Bool} (h : Ev K E te Δ (· = .bl b) X) : Et K E (tTest te) Δ (· = b) X := et_val (h.imp fun d e => ⟨b, e, rfl⟩)
theorem et1_B {b : Bool} (h : Ev K E te Δ (· = .bl b) X) : Et K E (tB te) Δ (· = b) X := et_B (h.imp fun d e => ⟨b, e, rfl⟩)
theorem et_and {R1 R2 R : Bool → Prop} (h1 : Et K E tt Δ R1 X) (h2 : R1 true → Et K E tu Δ R2 X) (t1 : ∀ b, R1 true → R2 b → R b) (t2 : R1 false → R false) : Et K E (tAnd tt tu) Δ R X := fun q G0 H0 G H σ Q s k kx =>
  h1 q G0 H0 G H σ _ s (fun b G1 H1 g1 p1 => by
    cases b with
    | true => exact iteT (h2 p1 q G0 H0 G1 H1 σ Q (s.go g1) (fun c G2 H2 g2 p2 => k c G2 H2 (s.tr g1 g2) (t1 c p1 p2)) fun C G' H' g x => kx C G' H' (s.tr g1 g) x)
    | false => exact iteF (k false G1 H1 g1 (t2 p1))) kx
theorem et_or {R1 R2 R : Bool → Prop} (h1 : Et K E tt Δ R1 X) (h2 : R1 false → Et K E tu Δ R2 X) (t1 : ∀ b, R1 false → R2 b → R b) (t2 : R1 true → R true) : Et K E (tOr tt tu) Δ R X := fun q G0 H0 G H σ Q s k kx =>
  h1 q G0 H0 G H σ _ s (fun b G1 H1 g1 p1 => by
    cases b with
    | false => exact iteF (h2 p1 q G0 H0 G1 H1 σ Q (s.go g1) (fun c G2 H2 g2 p2 => k c G2 H2 (s.tr g1 g2) (t1 c p1 p2)) fun C G' H' g x => kx C G' H' (s.tr g1 g) x)
    | true => exact iteT (k true G1 H1 g1 (t2 p1))) kx
theorem et_not {R : Bool → Prop} (h1 : Et K E tt Δ (fun b => R (!b)) X) : Et K E (tNot tt) Δ R X := fun q G0 H0 G H σ Q s k kx =>
  h1 q G0 H0 G H σ _ s (fun b G1 H1 g1 p1 => k (!b) G1 H1 g1 p1) kx
theorem et1_not {b : Bool} (h1 : Et K E tt Δ (· = b) X) : Et K E (tNot tt) Δ (· = !b) X := et_not (h1.imp fun d e => by rw [e])
theorem et1_and {a b : Bool} (h1 : Et K E tt Δ (· = a) X) (h2 : a = true → Et K E tu Δ (· = b) X) : Et K E (tAnd tt tu) Δ (· = (a && b)) X := by
  cases a with
  | true => exact et_and h1 (fun e => h2 rfl) (fun c e1 e2 => by rw [e2]; rfl) fun e => by cases e
  | false => exact et_and (R2 := fun _ => True) h1 (fun e => by cases e) (fun c e1 e2 => by cases e1) fun e => rfl
theorem et1_or {a b : Bool} (h1 : Et K E tt Δ (· = a) X) (h2 : a = false → Et K E tu Δ (· = b) X) : Et K E (tOr tt tu) Δ (· = (a || b)) X := by
  cases a with
  | false => exact et_or h1 (fun e => h2 rfl) (fun c e1 e2 => by rw [e2]; rfl) fun e => by cases e
  | true => exact et_or (R2 := fun _ => True) h1 (fun e => by cases e) (fun c e1 e2 => by cases e1) fun e => rfl
theorem et_is {b b' : Bool} (h : Et K E tt Δ (· = b) X) (e : b = b') : Et K E tt Δ (· = b') X := by subst e; exact h
/-! and, or, not, if as values -/
theorem ev_andV {R1 : Bool → Prop} (h1 : Ev K E ta Δ (fun d => ∃ b, d = .bl b ∧ R1 b) X) (h2 : R1 true → Ev K E tb Δ R X) (t2 : R1 false → R (.bl false)) : Ev K E (tAndV ta tb) Δ R X := fun q G0 H0 G H σ Q s k kx =>
  h1 q G0 H0 G H σ _ s (fun v d G1 H1 g1 r1 p1 => by
    obtain ⟨b, rfl, p⟩ := p1
    cases r1
    refine ⟨b, rfl, ?_⟩
    cases b with
    | true => exact iteT (h2 p q G0 H0 G1 H1 σ Q (s.go g1) (fun v c G2 H2 g2 r2 p2 => k v c G2 H2 (s.tr g1 g2) r2 p2) fun C G' H' g x => kx C G' H' (s.tr g1 g) x)
    | false => exact iteF (k _ _ G1 H1 g1 (.bl false) (t2 p))) kx
theorem ev_orV {R1 : Bool → Prop} (h1 : Ev K E ta Δ (fun d => ∃ b, d = .bl b ∧ R1 b) X) (h2 : R1 false → Ev K E tb Δ R X) (t2 : R1 true → R (.bl true)) : Ev K E (tOrV ta tb) Δ R X := fun q G0 H0 G H σ Q s k kx =>
  h1 q G0 H0 G H σ _ s (fun v d G1 H1 g1 r1 p1 => by
    obtain ⟨b, rfl, p⟩ := p1
    cases r1
    refine ⟨b, rfl, ?_⟩
    cases b with
    | false => exact iteF (h2 p q G0 H0 G1 H1 σ Q (s.go g1) (fun v c G2 H2 g2 r2 p2 => k v c G2 H2 (s.tr g1 g2) r2 p2) fun C G' H' g x => kx C G' H' (s.tr g1 g) x)
    | true => exact iteT (k _ _ G1 H1 g1 (.bl true) (t2 p))) kx
theorem ev1_andV {a b : Bool} (h1 : Ev K E ta Δ (· = .bl a) X) (h2 : a = true → Ev K E tb Δ (· = .bl b) X) : Ev K E (tAndV ta tb) Δ (· = .bl (a && b)) X := by
  cases a with
  | true => exact ev_andV (R1 := (· = true)) (h1.imp fun d e => ⟨true, e, rfl⟩) (fun e => (h2 rfl).imp fun d z => by rw [z]; rfl) fun e => by cases e
  | false => exact ev_andV (R1 := (· = false)) (h1.imp fun d e => ⟨false, e, rfl⟩) (fun e => by cases e) fun e => rfl
theorem ev1_orV {a b : Bool} (h1 : Ev K E ta Δ (· = .bl a) X) (h2 : a = false → Ev K E tb Δ (· = .bl b) X) : Ev K E (tOrV ta tb) Δ (· = .bl (a || b)) X := by
  cases a with
  | false => exact ev_orV (R1 := (· = false)) (h1.imp fun d e => ⟨false, e, rfl⟩) (fun e => (h2 rfl).imp fun d z => by rw [z]; rfl) fun e => by cases e
  | true => exact ev_orV (R1 := (· = true)) (h1.imp fun d e => ⟨true, e, rfl⟩) (fun e => by cases e) fun e => rfl
theorem ev_notV {R : Bool → Prop} (h1 : Ev K E ta Δ (fun d => ∃ b, d = .bl b ∧ R (!b)) X) : Ev K E (tNotV ta) Δ (fun d => ∃ b, d = .bl b ∧ R b) X := fun q G0 H0 G H σ Q s k kx =>
  h1 q G0 H0 G H σ _ s (fun v d G1 H1 g1 r1 p1 => by
    obtain ⟨b, rfl, p⟩ := p1
    cases r1
    exact ⟨b, rfl, k _ _ G1 H1 g1 (.bl (!b)) ⟨_, rfl, p⟩⟩) kx
theorem ev1_notV {a : Bool} (h1 : Ev K E ta Δ (· = .bl a) X) : Ev K E (tNotV ta) Δ (· = .bl (!a)) X :=
  (ev_notV (R := (· = !a)) (h1.imp fun d e => ⟨a, e, rfl⟩)).imp fun d ⟨b, e1, e2⟩ => by rw [e1, e2]
theorem ev_if {R1 : Bool → Prop} (h : Et K E tt Δ R1 X) (h1 : R1 true → Ev K E ta Δ R X) (h2 : R1 false → Ev K E tb Δ R X) : Ev K E (tIf tt ta tb) Δ R X := fun q G0 H0 G H σ Q s k kx =>
  h q G0 H0 G H σ _ s (fun b G1 H1 g1 p => by
    cases b with
    | true => exact iteT (h1 p q G0 H0 G1 H1 σ Q (s.go g1) (fun v c G2 H2 g2 r2 p2 => k v c G2 H2 (s.tr g1 g2) r2 p2) fun C G' H' g x => kx C G' H' (s.tr g1 g) x)
    | false => exact iteF (h2 p q G0 H0 G1 H1 σ Q (s.go g1) (fun v c G2 H2 g2 r2 p2 => k v c G2 H2 (s.tr g1 g2) r2 p2) fun C G' H' g x => kx C G' H' (s.tr g1 g) x)) kx
theorem ev1_if {b : Bool} {x y : D} (h : Et K E tt Δ (· = b) X) (h1 : b = true → Ev K E ta Δ (· = x) X) (h2 : b = false → Ev K E tb Δ (· = y) X) : Ev K E (tIf tt ta tb) Δ (· = if b = true then x else y) X := by
  cases b with
  | true => exact ev_if h (fun e => (h1 rfl).imp fun d z => z) fun e => by cases e
  | false => exact ev_if h (fun e => by cases e) fun e => (h2 rfl).imp fun d z => z
/-! arguments, displays -/
theorem ea_nil : Ea K E tNil Δ (· = []) X := fun q G0 H0 G H σ Q s k _ => k [] [] G H s.rf .nil rfl
theorem ea_cons {tr : TA} {Rs : List D → Prop} {R' : List D → Prop} (h : Ev K E ta Δ R X) (hr : ∀ d, R d → Ea K E tr Δ Rs X) (t : ∀ d ds, R d → Rs ds → R' (d :: ds)) : Ea K E (tCons ta tr) Δ R' X := fun q G0 H0 G H σ Q s k kx =>
  h q G0 H0 G H σ _ s (fun v d G1 H1 g1 r1 p1 => hr d p1 q G0 H0 G1 H1 σ _ (s.go g1) (fun vs ds G2 H2 g2 r2 p2 => k _ _ G2 H2 (s.tr g1 g2) (.cons (r1.ex g2.ex) r2) (t d ds p1 p2)) fun C G' H' g x => kx C G' H' (s.tr g1 g) x) kx
theorem ea1_cons {tr : TA} {d : D} {ds : List D} (h : Ev K E ta Δ (· = d) X) (hr : Ea K E tr Δ (· = ds) X) : Ea K E (tCons ta tr) Δ (· = d :: ds) X := ea_cons h (fun _ _ => hr) fun a b e1 e2 => by rw [e1, e2]
theorem ev_tup {tr : TA} {Rs : List D → Prop} (h : Ea K E tr Δ Rs X) (hl : ∀ ds, Rs ds → ds.length ≤ sizeLine) (t : ∀ ds, Rs ds → R (.tup ds)) : Ev K E (tTup tr) Δ R X := fun q G0 H0 G H σ Q s k kx =>
  h q G0 H0 G H σ _ s (fun vs ds G1 H1 g1 r1 p1 => ⟨by rw [r1.length]; exact hl ds p1, fun p hp =>
    have g := Gr.new (o := .tup vs) g1.sub hp
    k _ _ _ _ (s.tr g1 g.any) (.tup (.inl (.inl upd_same)) (r1.ex g.ex)) (t ds p1)⟩) kx
theorem ev_lst {tr : TA} {Rs : List D → Prop} (h : Ea K E tr Δ Rs X) (hl : ∀ ds, Rs ds → ds.length ≤ sizeLine) (t : ∀ ds, Rs ds → R (.lst ds)) : Ev K E (tLst tr) Δ R X := fun q G0 H0 G H σ Q s k kx =>
  h q G0 H0 G H σ _ s (fun vs ds G1 H1 g1 r1 p1 => ⟨by rw [r1.length]; exact hl ds p1, fun p hp =>
    have g := Gr.new (o := .lst vs) g1.sub hp
    k _ _ _ _ (s.tr g1 g.any) (.lst upd_same (r1.ex g.ex)) (t ds p1)⟩) kx
theorem szl {n : Nat} (h : n ≤ 1000000 := by first | decide | (simp; done)) : n ≤ sizeLine := Nat.le_trans h (by rw [sizeLine_eq]; decide)
theorem szlt {n : Nat} (h : n < 1000000) : n < sizeLine := Nat.lt_of_lt_of_le h (by rw [sizeLine_eq]; decide)
theorem ev1_tup {tr : TA} {ds : List D} (h : Ea K E tr Δ (· = ds) X) (hl : ds.length ≤ sizeLine := by exact szl) : Ev K E (tTup tr) Δ (· = .tup ds) X := ev_tup h (fun _ e => by rw [e]; exact hl) fun _ e => by rw [e]
theorem ev1_lst {tr : TA} {ds : List D} (h : Ea K E tr Δ (· = ds) X) (hl : ds.length ≤ sizeLine := by exact szl) : Ev K E (tLst tr) Δ (· = .lst ds) X := ev_lst h (fun _ e => by rw [e]; exact hl) fun _ e => by rw [e]
theorem ev_cb {r : List V → Hp → VK → Prop} {tr : TA} {Rs : List D → Prop} (h : Ea K E tr Δ Rs X) (hr : ∀ ds, Rs ds → CbD K r ds R) : Ev K E (tCB r tr) Δ R X := fun q G0 H0 G H σ Q s k kx =>
  h q G0 H0 G H σ _ s (fun vs ds G1 H1 g1 r1 p1 => hr ds p1 G1 H1 vs Q g1.sub r1 fun u d G3 H3 g rd p3 => k u d G3 H3 (s.tr g1 g.any) rd p3) kx
theorem ev1_cb {r : List V → Hp → VK → Prop} {tr : TA} {ds : List D} {d : D} (h : Ea K E tr Δ (· = ds) X) (hr : CbD K r ds (· = d)) : Ev K E (tCB r tr) Δ (· = d) X := ev_cb h fun _ e => by subst e; exact hr
/-! slices -/
theorem eo_none : Eo K E tNoPart Δ (· = none) X := fun q G0 H0 G H σ Q s k _ => k none G H s.rf rfl
theorem eo_some {Ro : Option Int → Prop} (h : Ev K E te Δ (fun d => ∃ i, d = .int i ∧ Ro (some i)) X) : Eo K E (tPart te) Δ Ro X := fun q G0 H0 G H σ Q s k kx =>
  h q G0 H0 G H σ _ s (fun v d G1 H1 g1 r1 p1 => by
    obtain ⟨i, rfl, p⟩ := p1
    cases r1
    exact ⟨i, rfl, k _ G1 H1 g1 p⟩) kx
theorem eo1_some {i : Int} (h : Ev K E te Δ (· = .int i) X) : Eo K E (tPart te) Δ (· = some i) X := eo_some (h.imp fun d e => ⟨i, e, rfl⟩)
theorem ev_sl {r : V → Option Int → Option Int → Hp → VK → Prop} {tl th : TO} {Rl Rh : Option Int → Prop} (h : Ev K E te Δ Ra X) (h1 : Eo K E tl Δ Rl X) (h2 : Eo K E th Δ Rh X) (hr : ∀ x l u, Ra x → Rl l → Rh u → SlD K r x l u R) : Ev K E (tSl r te tl th) Δ R X := fun q G0 H0 G H σ Q s k kx =>
  h q G0 H0 G H σ _ s (fun v x G1 H1 g1 r1 p1 => h1 q G0 H0 G1 H1 σ _ (s.go g1) (fun l G2 H2 g2 p2 => h2 q G0 H0 G2 H2 σ _ (s.go (s.tr g1 g2)) (fun u G3 H3 g3 p3 =>
    hr x l u p1 p2 p3 G3 H3 v Q g3.sub (r1.ex (g2.ex.trans g3.ex)) fun z d G4 H4 g rd p4 => k z d G4 H4 (s.tr (s.tr (s.tr g1 g2) g3) g.any) rd p4) fun C G' H' g x => kx C G' H' (s.tr (s.tr g1 g2) g) x) fun C G' H' g x => kx C G' H' (s.tr g1 g) x) kx
theorem ev1_sl {r : V → Option Int → Option Int → Hp → VK → Prop} {tl th : TO} {lo hi : Option Int} {x d : D} (h : Ev K E te Δ (· = x) X) (h1 : Eo K E tl Δ (· = lo) X) (h2 : Eo K E th Δ (· = hi) X) (hr : SlD K r x lo hi (· = d)) : Ev K E (tSl r te tl th) Δ (· = d) X :=
  ev_sl h h1 h2 fun a b c e1 e2 e3 => by subst e1; subst e2; subst e3; exact hr
/-! fields of a frozen instance -/
theorem ev_fld {f : Str} {C : Addr} {fs : List (Str × D)} {d : D} (h : Ev K E ta Δ (· = .obj C fs) X) (hc : Cls K C) (hn : NoAttr K C f) (hl : fs.lookup f = some d) : Ev K E (tFld K ta f) Δ (· = d) X := fun q G0 H0 G H σ Q s k kx =>
  h q G0 H0 G H σ _ s (fun v x G1 H1 g1 r1 p1 => by
    subst p1
    obtain ⟨a, dx, vs, rfl, ho, rf⟩ := r1.obj_inv
    obtain ⟨u, hu, ru⟩ := rf.look hl
    exact ⟨a, C, dx, vs, u, rfl, g1.sub.i ho, hc, hn, hu, k u d G1 H1 g1 ru rfl⟩) kx

/-! ### calls: promises over data -/
inductive Res where
  | ret (d : D) | exc (C : Addr)
/-- a def of data -/
def spD (K : PySem.W.Frag) (pre : List D → Prop) (post : List D → Res → Prop) : Sp := fun vs H Q E => ∃ (G : Hp) (ds : List D), Exx G H ∧ TbOk H ∧ RpL K G vs ds ∧ pre ds ∧
  (∀ (v : V) (d : D) (G' H' : Hp), Gr none G H G' H' → Rp K G' v d → post ds (.ret d) → Q v H') ∧ (∀ (C : Addr) (G' H' : Hp), Gr none G H G' H' → post ds (.exc C) → E (.ref C) none H')
/-- a def that gets the dice ahead of data -/
def spQ (K : PySem.W.Frag) (pre : List D → Prop) (post : List D → Res → Prop) : Sp := fun vs H Q E => ∃ (G : Hp) (a : Addr) (ws : List V) (ds : List D), vs = .ref a :: ws ∧ Exx G H ∧ Nt G a ∧ DiceAt H a ∧ TbOk H ∧ RpL K G ws ds ∧ pre ds ∧
  (∀ (v : V) (d : D) (G' H' : Hp), Gr (some a) G H G' H' → Rp K G' v d → post ds (.ret d) → Q v H') ∧ (∀ (C : Addr) (G' H' : Hp), Gr (some a) G H G' H' → post ds (.exc C) → E (.ref C) none H')
theorem ev_call {tr : TA} {Rs : List D → Prop} {pre : List D → Prop} {post : List D → Res → Prop} (h : Ea K E tr Δ Rs X) (hp : ∀ ds, Rs ds → pre ds) (hr : ∀ ds d, Rs ds → post ds (.ret d) → R d) (hx : ∀ ds C, Rs ds → post ds (.exc C) → X C) :
    Ev K E (tCallS (spD K pre post) E tr) Δ R X := fun q G0 H0 G H σ Q s k kx =>
  h q G0 H0 G H σ _ s (fun vs ds G1 H1 g1 r1 p1 => ⟨G1, ds, g1.sub, (s.go g1).rs.tb, r1, hp ds p1, fun v d G' H' g rd po => k v d G' H' (s.tr g1 g.any) rd (hr ds d p1 po), fun C G' H' g po => kx C G' H' (s.tr g1 g.any) (hx ds C p1 po)⟩) kx
theorem ev1_call {tr : TA} {ds : List D} {pre : List D → Prop} {post : List D → Res → Prop} {d : D} (h : Ea K E tr Δ (· = ds) X) (hp : pre ds) (hr : ∀ e, post ds (.ret e) → e = d) (hx : ∀ C, post ds (.exc C) → X C) :
    Ev K E (tCallS (spD K pre post) E tr) Δ (· = d) X := ev_call h (fun _ e => by rw [e]; exact hp) (fun _ e z => by rw [z]; exact hr e) fun _ C z => by rw [z]; exact hx C
theorem ev_callq {tr : TA} {Rs : List D → Prop} {pre : List D → Prop} {post : List D → Res → Prop} {i : Nat} (hi : Δ[i]? = some Sl.dice) (h : Ea K E tr Δ Rs X) (hp : ∀ ds, Rs ds → pre ds) (hr : ∀ ds d, Rs ds → post ds (.ret d) → R d)
    (hx : ∀ ds C, Rs ds → post ds (.exc C) → X C) : Ev K E (tCallS (spQ K pre post) E (tCons (tVar i) tr)) Δ R X := fun q G0 H0 G H σ Q s k kx => by
  obtain ⟨a, rfl, ha⟩ := s.rs.dice i hi
  refine ⟨_, ha, ?_⟩
  refine h (some a) G0 H0 G H σ _ s (fun vs ds G1 H1 g1 r1 p1 => ?_) kx
  obtain ⟨n1, d1⟩ := (s.go g1).rs.gq a rfl
  exact ⟨G1, a, vs, ds, rfl, g1.sub, n1, d1, (s.go g1).rs.tb, r1, hp ds p1, fun v d G' H' g rd po => k v d G' H' (s.tr g1 g) rd (hr ds d p1 po), fun C G' H' g po => kx C G' H' (s.tr g1 g) (hx ds C p1 po)⟩
end
end Ts


namespace Ts
variable [Tt]
open PySem L2

/-! ### statements -/
inductive Out where
  | nx (Δ : En) | rt (d : D) | bk (Δ : En) | ct (Δ : En) | ex (C : Addr) (Δ : En)
  /-- a return whose state is told -/
  | rm (d : D) (Δ : En)
def RtP (K : PySem.W.Frag) (q : Qd) (G0 H0 G H : Hp) (post : Out → Prop) (d : D) : Prop := post (.rt d) ∨ ∃ (σ : L2.St) (Δ : En), Sta K q G0 H0 G H σ Δ ∧ post (.rm d Δ)
theorem RtP.imp {K : PySem.W.Frag} {q : Qd} {G0 H0 G H : Hp} {post post' : Out → Prop} {d : D} (h : RtP K q G0 H0 G H post d) (hp : ∀ o, post o → post' o) : RtP K q G0 H0 G H post' d := h.elim (fun z => .inl (hp _ z)) fun ⟨σ, Δ, s, z⟩ => .inr ⟨σ, Δ, s, hp _ z⟩
theorem RtP.rt {K : PySem.W.Frag} {q : Qd} {G0 H0 G H : Hp} {post : Out → Prop} {d : D} (h : RtP K q G0 H0 G H post d) (n : ∀ d Δ, post (.rm d Δ) → False) : post (.rt d) := h.elim id fun ⟨_, _, _, z⟩ => (n _ _ z).elim
def Xs (K : PySem.W.Frag) (W : WX) (t : TS) (Δ : En) (post : Out → Prop) : Prop :=
  ∀ (q : Qd) (G0 H0 G H : Hp) (σ : L2.St) (T : Ends), Sta K q G0 H0 G H σ Δ →
    (∀ (σ' : L2.St) (Δ' : En) (G' H' : Hp), Exx G G' → Sta K q G0 H0 G' H' σ' Δ' → post (.nx Δ') → T.nx σ' H') →
    (∀ (v : V) (d : D) (G' H' : Hp), Gr q G0 H0 G' H' → Rp K G' v d → RtP K q G0 H0 G' H' post d → T.rt v H') →
    (∀ (σ' : L2.St) (Δ' : En) (G' H' : Hp), Exx G G' → Sta K q G0 H0 G' H' σ' Δ' → post (.bk Δ') → T.bk σ' H') →
    (∀ (σ' : L2.St) (Δ' : En) (G' H' : Hp), Exx G G' → Sta K q G0 H0 G' H' σ' Δ' → post (.ct Δ') → T.ct σ' H') →
    (∀ (C : Addr) (σ' : L2.St) (Δ' : En) (G' H' : Hp), Exx G G' → Sta K q G0 H0 G' H' σ' Δ' → post (.ex C Δ') → W (.ref C) none σ' H') → t T σ H
def thenP (K : PySem.W.Frag) (W : WX) (u : TS) (post : Out → Prop) : Out → Prop
  | .nx Δ => Xs K W u Δ post
  | o => post o
section
variable {K : PySem.W.Frag} {W : WX} {Δ : En} {t u : TS} {post post' : Out → Prop} {te ta tb : TE} {tt : TT} {R : D → Prop} {X : Addr → Prop}
theorem Xs.imp (h : Xs K W t Δ post) (hp : ∀ o, post o → post' o) : Xs K W t Δ post' := fun q G0 H0 G H σ T s k1 k2 k3 k4 k5 =>
  h q G0 H0 G H σ T s (fun σ' Δ' G' H' e s' p => k1 σ' Δ' G' H' e s' (hp _ p)) (fun v d G' H' g r p => k2 v d G' H' g r (p.imp hp)) (fun σ' Δ' G' H' e s' p => k3 σ' Δ' G' H' e s' (hp _ p)) (fun σ' Δ' G' H' e s' p => k4 σ' Δ' G' H' e s' (hp _ p))
    fun C σ' Δ' G' H' e s' p => k5 C σ' Δ' G' H' e s' (hp _ p)
theorem xs_seq (h : Xs K W t Δ (thenP K W u post)) : Xs K W (tSeq t u) Δ post := fun q G0 H0 G H σ T s k1 k2 k3 k4 k5 =>
  h q G0 H0 G H σ { T with nx := u T } s (fun σ' Δ' G' H' e s' p => (show Xs K W u Δ' post from p) q G0 H0 G' H' σ' T s' (fun σ2 Δ2 G2 H2 e2 s2 p2 => k1 σ2 Δ2 G2 H2 (e.trans e2) s2 p2) k2 (fun σ2 Δ2 G2 H2 e2 s2 p2 => k3 σ2 Δ2 G2 H2 (e.trans e2) s2 p2)
    (fun σ2 Δ2 G2 H2 e2 s2 p2 => k4 σ2 Δ2 G2 H2 (e.trans e2) s2 p2) fun C σ2 Δ2 G2 H2 e2 s2 p2 => k5 C σ2 Δ2 G2 H2 (e.trans e2) s2 p2) k2 k3 k4 k5
theorem xs_next (h : post (.nx Δ)) : Xs K W tNext Δ post := fun q G0 H0 G H σ T s k1 k2 k3 k4 k5 => k1 σ Δ G H (Exx.refl _) s h
theorem xs_brk (h : post (.bk Δ)) : Xs K W tBreak Δ post := fun q G0 H0 G H σ T s k1 k2 k3 k4 k5 => k3 σ Δ G H (Exx.refl _) s h
theorem xs_cont (h : post (.ct Δ)) : Xs K W tCont Δ post := fun q G0 H0 G H σ T s k1 k2 k3 k4 k5 => k4 σ Δ G H (Exx.refl _) s h
theorem xs_expr (h : Ev K (WE W) te Δ R X) (hx : ∀ C, X C → post (.ex C Δ)) (k : post (.nx Δ)) : Xs K W (tDrop te) Δ post := fun q G0 H0 G H σ T s k1 k2 k3 k4 k5 =>
  h q G0 H0 G H σ _ s (fun v d G1 H1 g1 r1 p1 => k1 σ Δ G1 H1 g1.ex (s.go g1) k) fun C G1 H1 g x => k5 C σ Δ G1 H1 g.ex (s.go g) (hx C x)
theorem xs_ret (h : Ev K (WE W) te Δ R X) (hx : ∀ C, X C → post (.ex C Δ)) (k : ∀ d, R d → post (.rt d)) : Xs K W (tRet te) Δ post := fun q G0 H0 G H σ T s k1 k2 k3 k4 k5 =>
  h q G0 H0 G H σ _ s (fun v d G1 H1 g1 r1 p1 => k2 v d G1 H1 (s.go g1).gr r1 (.inl (k d p1))) fun C G1 H1 g x => k5 C σ Δ G1 H1 g.ex (s.go g) (hx C x)
theorem xs_retM (h : Ev K (WE W) te Δ R X) (hx : ∀ C, X C → post (.ex C Δ)) (k : ∀ d, R d → post (.rm d Δ)) : Xs K W (tRet te) Δ post := fun q G0 H0 G H σ T s k1 k2 k3 k4 k5 =>
  h q G0 H0 G H σ _ s (fun v d G1 H1 g1 r1 p1 => k2 v d G1 H1 (s.go g1).gr r1 (.inr ⟨σ, Δ, s.go g1, k d p1⟩)) fun C G1 H1 g x => k5 C σ Δ G1 H1 g.ex (s.go g) (hx C x)
theorem xs1_retM {d : D} (h : Ev K (WE W) te Δ (· = d) fun _ => False) (k : post (.rm d Δ)) : Xs K W (tRet te) Δ post := xs_retM h (fun _ z => z.elim) fun e z => by rw [z]; exact k
theorem xs1_ret {d : D} (h : Ev K (WE W) te Δ (· = d) fun _ => False) (k : post (.rt d)) : Xs K W (tRet te) Δ post := xs_ret h (fun _ z => z.elim) fun e z => by rw [z]; exact k
theorem xs_retN (k : post (.rt .non)) : Xs K W tRetN Δ post := fun q G0 H0 G H σ T s k1 k2 k3 k4 k5 => k2 .non .non G H s.gr .non (.inl k)
theorem xs_asg {i : Nat} (h : Ev K (WE W) te Δ R X) (hx : ∀ C, X C → post (.ex C Δ)) (k : ∀ d, R d → post (.nx (Δ.set i (.dat d)))) : Xs K W (tAsg te (gName i)) Δ post := fun q G0 H0 G H σ T s k1 k2 k3 k4 k5 =>
  h q G0 H0 G H σ _ s (fun v d G1 H1 g1 r1 p1 => k1 _ _ G1 H1 g1.ex ((s.go g1).set r1) (k d p1)) fun C G1 H1 g x => k5 C σ Δ G1 H1 g.ex (s.go g) (hx C x)
theorem xs1_asg {i : Nat} {d : D} (h : Ev K (WE W) te Δ (· = d) fun _ => False) (k : post (.nx (Δ.set i (.dat d)))) : Xs K W (tAsg te (gName i)) Δ post := xs_asg h (fun _ z => z.elim) fun e z => by rw [z]; exact k
theorem xs_if {Rt : Bool → Prop} (h : Et K (WE W) tt Δ Rt X) (hx : ∀ C, X C → post (.ex C Δ)) (h1 : Rt true → Xs K W t Δ post) (h2 : Rt false → Xs K W u Δ post) : Xs K W (tIfS tt t u) Δ post := fun q G0 H0 G H σ T s k1 k2 k3 k4 k5 =>
  h q G0 H0 G H σ _ s (fun b G1 H1 g1 p1 => by
    have go : ∀ {z : TS}, Xs K W z Δ post → z T σ H1 := fun {z} hz => hz q G0 H0 G1 H1 σ T (s.go g1) (fun σ2 Δ2 G2 H2 e2 s2 p2 => k1 σ2 Δ2 G2 H2 (g1.ex.trans e2) s2 p2) k2 (fun σ2 Δ2 G2 H2 e2 s2 p2 => k3 σ2 Δ2 G2 H2 (g1.ex.trans e2) s2 p2)
      (fun σ2 Δ2 G2 H2 e2 s2 p2 => k4 σ2 Δ2 G2 H2 (g1.ex.trans e2) s2 p2) fun C σ2 Δ2 G2 H2 e2 s2 p2 => k5 C σ2 Δ2 G2 H2 (g1.ex.trans e2) s2 p2
    cases b with
    | true => exact iteT (go (h1 p1))
    | false => exact iteF (go (h2 p1))) fun C G1 H1 g x => k5 C σ Δ G1 H1 g.ex (s.go g) (hx C x)
theorem xs1_if {b : Bool} (h : Et K (WE W) tt Δ (· = b) fun _ => False) (h1 : b = true → Xs K W t Δ post) (h2 : b = false → Xs K W u Δ post) : Xs K W (tIfS tt t u) Δ post := xs_if h (fun _ z => z.elim) (fun e => h1 e.symm) fun e => h2 e.symm
/-! own lists -/
theorem xs_new {i : Nat} {tr : TA} {Rs : List D → Prop} (h : Ea K (WE W) tr Δ Rs X) (hx : ∀ C, X C → post (.ex C Δ)) (hl : ∀ ds, Rs ds → ds.length ≤ sizeLine) (k : ∀ ds, Rs ds → post (.nx (Δ.set i (.own ds)))) : Xs K W (tAsg (tLst tr) (gName i)) Δ post := fun q G0 H0 G H σ T s k1 k2 k3 k4 k5 =>
  h q G0 H0 G H σ _ s (fun vs ds G1 H1 g1 r1 p1 => ⟨by rw [r1.length]; exact hl ds p1, fun p hp => k1 _ _ G1 _ g1.ex ((s.go g1).newMut hp r1) (k ds p1)⟩) fun C G1 H1 g x => k5 C σ Δ G1 H1 g.ex (s.go g) (hx C x)
theorem xs_new0 {i : Nat} (k : post (.nx (Δ.set i (.own [])))) : Xs K W (tAsg (tLst tNil) (gName i)) Δ post := xs_new (X := fun _ => False) ea_nil (fun _ z => z.elim) (fun _ e => by rw [e]; exact szl) fun ds e => by rw [e]; exact k
theorem xs_freeze {i : Nat} {ds : List D} (hi : Δ[i]? = some (Sl.own ds)) (h : Xs K W t (Δ.set i (.dat (.lst ds))) post) : Xs K W t Δ post := fun q G0 H0 G H σ T s k1 k2 k3 k4 k5 => by
  obtain ⟨G1, e1, s1⟩ := s.freeze hi
  exact h q G0 H0 G1 H σ T s1 (fun σ2 Δ2 G2 H2 e2 s2 p2 => k1 σ2 Δ2 G2 H2 (e1.trans e2) s2 p2) k2 (fun σ2 Δ2 G2 H2 e2 s2 p2 => k3 σ2 Δ2 G2 H2 (e1.trans e2) s2 p2)
      (fun σ2 Δ2 G2 H2 e2 s2 p2 => k4 σ2 Δ2 G2 H2 (e1.trans e2) s2 p2) fun C σ2 Δ2 G2 H2 e2 s2 p2 => k5 C σ2 Δ2 G2 H2 (e1.trans e2) s2 p2
theorem xs_ret_own {i : Nat} {ds : List D} (hi : Δ[i]? = some (Sl.own ds)) (k : post (.rt (.lst ds))) : Xs K W (tRet (tVar i)) Δ post :=
  xs_freeze hi (xs1_ret (ev_var (by
    have hl : i < Δ.length := (List.getElem?_eq_some_iff.mp hi).1
    exact List.getElem?_set_self hl)) k)
/-- xs.append(e), xs a list of one's own -/
theorem xs_app {i : Nat} {ds : List D} (hi : Δ[i]? = some (Sl.own ds)) (hl : ds.length < sizeLine) (h : Ev K (WE W) te Δ R X) (hx : ∀ C, X C → post (.ex C Δ)) (k : ∀ d, R d → post (.nx (Δ.set i (.own (ds ++ [d]))))) :
    Xs K W (tDrop (tBM K "list" rAppend (tVar i) (tCons te tNil))) Δ post := fun q G0 H0 G H σ T s k1 k2 k3 k4 k5 => by
  obtain ⟨p, vs, h1, h2, h3, h4, h5, h6⟩ := s.rs.own i ds hi
  refine ⟨_, h1, .inl ⟨rfl, vs, .inl (.inl h2)⟩, ?_⟩
  refine h q G0 H0 G H σ _ s (fun v d G1 H1 g1 r1 p1 => ?_) fun C G1 H1 g x => k5 C σ Δ G1 H1 g.ex (s.go g) (hx C x)
  have s1 := s.go g1
  refine ⟨p, vs, v, rfl, rfl, g1.kl h6 h2, by rw [h3.length]; exact hl, ?_⟩
  exact k1 σ _ G1 _ g1.ex (s1.change hi h1 ((h3.ex g1.ex).append (.cons r1 .nil))) (k d p1)
theorem xs1_app {i : Nat} {ds : List D} {d : D} (hi : Δ[i]? = some (Sl.own ds)) (hl : ds.length < sizeLine) (h : Ev K (WE W) te Δ (· = d) fun _ => False) (k : post (.nx (Δ.set i (.own (ds ++ [d]))))) :
    Xs K W (tDrop (tBM K "list" rAppend (tVar i) (tCons te tNil))) Δ post := xs_app hi hl h (fun _ z => z.elim) fun e z => by rw [z]; exact k
/-- the length, an item of a list of one's own -/
def rLenC (K : PySem.W.Frag) : List V → Hp → VK → Prop := fun xs H Q => ∃ x n, xs = [x] ∧ LenV K x H n ∧ Q (.int n) H
theorem ev_len_own {E : L2.St → XK} {i : Nat} {ds : List D} (hi : Δ[i]? = some (Sl.own ds)) : Ev K E (tCB (rLenC K) (tCons (tVar i) tNil)) Δ (· = .int ds.length) X := fun q G0 H0 G H σ Q s k kx => by
  obtain ⟨p, vs, h1, h2, h3, h4, h5, h6⟩ := s.rs.own i ds hi
  exact ⟨_, h1, _, vs.length, rfl, .inl ⟨vs, .inl (.inl h2), rfl⟩, by rw [h3.length]; exact k _ _ G H s.rf (.int _) rfl⟩
theorem ev_ix_own {E : L2.St → XK} {i : Nat} {ds : List D} {j : Int} {d : D} (hi : Δ[i]? = some (Sl.own ds)) (h : Ev K E te Δ (· = .int j) X) (hd : atI ds j = some d) : Ev K E (tOp (rIx K) (tVar i) te) Δ (· = d) X := fun q G0 H0 G H σ Q s k kx => by
  obtain ⟨p, vs, h1, h2, h3, h4, h5, h6⟩ := s.rs.own i ds hi
  refine ⟨_, h1, ?_⟩
  refine h q G0 H0 G H σ _ s (fun v z G1 H1 g1 r1 p1 => ?_) kx
  subst p1
  cases r1
  have a1 : ∃ v, atI vs j = some v ∧ Rp K G v d := by
    unfold atI at hd ⊢
    rw [h3.length]
    cases e : ixN ds.length j with
    | none => rw [e] at hd; cases hd
    | some l =>
      rw [e] at hd
      exact h3.get hd
  obtain ⟨v, a2, a3⟩ := a1
  exact .inl ⟨p, vs, j, v, rfl, rfl, .inl (.inl (g1.kl h6 h2)), a2, k v d G1 H1 g1 (a3.ex g1.ex) rfl⟩

/-! ### targets -/
/-- the target g takes d; it stores at js -/
def Tg (K : PySem.W.Frag) (g : TG) (js : List Nat) (Δ : En) (d : D) (Δ' : En) : Prop := ∀ (q : Qd) (G0 H0 G H : Hp) (σ : L2.St) (v : V) (Q : L2.St → Hp → Prop), Sta K q G0 H0 G H σ Δ → Rp K G v d →
  (∀ σ', Sta K q G0 H0 G H σ' Δ' → (∀ vs : List Nat, (∀ j ∈ js, j ∈ vs) → wipe σ' vs = wipe σ vs) → Q σ' H) → g v σ H Q
def TgS (K : PySem.W.Frag) (g : TGs) (js : List Nat) (Δ : En) (ds : List D) (Δ' : En) : Prop := ∀ (q : Qd) (G0 H0 G H : Hp) (σ : L2.St) (vs : List V) (Q : L2.St → Hp → Prop), Sta K q G0 H0 G H σ Δ → RpL K G vs ds →
  (∀ σ', Sta K q G0 H0 G H σ' Δ' → (∀ vs : List Nat, (∀ j ∈ js, j ∈ vs) → wipe σ' vs = wipe σ vs) → Q σ' H) → g vs σ H Q
theorem wipe_set_in {σ : L2.St} {j : Nat} {x : Option V} : ∀ {vs : List Nat}, j ∈ vs → wipe (σ.set j x) vs = wipe σ vs
  | v :: vs, h => by
    unfold wipe
    by_cases c : j ∈ vs
    · rw [wipe_set_in c]
    · have e : j = v := by
        rcases List.mem_cons.mp h with e | e
        · exact e
        · exact absurd e c
      subst e
      have : wipe (σ.set j x) vs = (wipe σ vs).set j x := by
        clear h
        induction vs with
        | nil => rfl
        | cons w ws ih =>
          have n1 : j ≠ w := fun z => c (by rw [z]; exact List.mem_cons_self)
          have n2 : j ∉ ws := fun z => c (List.mem_cons_of_mem _ z)
          unfold wipe
          rw [ih n2, List.set_comm _ _ n1]
      rw [this, List.set_set]
theorem tg_name {i : Nat} {d : D} : Tg K (gName i) [i] Δ d (Δ.set i (.dat d)) := fun q G0 H0 G H σ v Q s r k => k _ (s.set r) fun vs h => wipe_set_in (h i List.mem_cons_self)
theorem tgs_nil : TgS K gNil [] Δ [] Δ := fun q G0 H0 G H σ vs Q s r k => by
  cases r
  exact ⟨rfl, k _ s fun _ _ => rfl⟩
theorem tgs_cons {g : TG} {gs : TGs} {js js' : List Nat} {d : D} {ds : List D} {Δ1 Δ2 : En} (h : Tg K g js Δ d Δ1) (hs : TgS K gs js' Δ1 ds Δ2) : TgS K (gCons g gs) (js ++ js') Δ (d :: ds) Δ2 := fun q G0 H0 G H σ vs Q s r k => by
  cases r with
  | cons r1 r2 =>
    exact ⟨_, _, rfl, h q G0 H0 G H σ _ _ s r1 fun σ1 s1 w1 => hs q G0 H0 G H σ1 _ Q s1 r2 fun σ2 s2 w2 => k σ2 s2 fun vs hv => (w2 vs fun j hj => hv j (List.mem_append_right _ hj)).trans (w1 vs fun j hj => hv j (List.mem_append_left _ hj))⟩
theorem tg_tup {gs : TGs} {js : List Nat} {n : Nat} {ds : List D} {Δ1 : En} (h : TgS K gs js Δ ds Δ1) (hn : ds.length = n) : Tg K (gTup K n gs) js Δ (.tup ds) Δ1 := fun q G0 H0 G H σ v Q s r k => by
  obtain ⟨a, xs, rfl, h1, h2⟩ := r.tup_inv
  exact ⟨a, xs, rfl, st_ex s.sub h1, by rw [h2.length]; exact hn, h q G0 H0 G H σ xs Q s h2 k⟩
theorem tg2 {i j : Nat} {a b : D} : Tg K (gTup K 2 (gCons (gName i) (gCons (gName j) gNil))) [i, j] Δ (.tup [a, b]) ((Δ.set i (.dat a)).set j (.dat b)) := tg_tup (tgs_cons tg_name (tgs_cons tg_name tgs_nil)) rfl
theorem tg3 {i j l : Nat} {a b c : D} : Tg K (gTup K 3 (gCons (gName i) (gCons (gName j) (gCons (gName l) gNil)))) [i, j, l] Δ (.tup [a, b, c]) (((Δ.set i (.dat a)).set j (.dat b)).set l (.dat c)) := tg_tup (tgs_cons tg_name (tgs_cons tg_name (tgs_cons tg_name tgs_nil))) rfl
theorem xs_asgT {g : TG} {js : List Nat} (h : Ev K (WE W) te Δ R X) (hx : ∀ C, X C → post (.ex C Δ)) (k : ∀ d, R d → ∃ Δ', Tg K g js Δ d Δ' ∧ post (.nx Δ')) : Xs K W (tAsg te g) Δ post := fun q G0 H0 G H σ T s k1 k2 k3 k4 k5 =>
  h q G0 H0 G H σ _ s (fun v d G1 H1 g1 r1 p1 => by
    obtain ⟨Δ', ht, hp⟩ := k d p1
    exact ht q G0 H0 G1 H1 σ v _ (s.go g1) r1 fun σ' s' _ => k1 σ' Δ' G1 H1 g1.ex s' hp) fun C G1 H1 g x => k5 C σ Δ G1 H1 g.ex (s.go g) (hx C x)
theorem xs1_asgT {g : TG} {js : List Nat} {d : D} {Δ' : En} (h : Ev K (WE W) te Δ (· = d) fun _ => False) (ht : Tg K g js Δ d Δ') (k : post (.nx Δ')) : Xs K W (tAsg te g) Δ post := xs_asgT h (fun _ z => z.elim) fun e z => ⟨Δ', by rw [z]; exact ht, k⟩
/-- a, b = x, y -/
theorem xs_par {i j : Nat} {tr : TA} {Rs : List D → Prop} (h : Ea K (WE W) tr Δ Rs X) (hx : ∀ C, X C → post (.ex C Δ)) (k : ∀ ds, Rs ds → ∃ a b, ds = [a, b] ∧ post (.nx ((Δ.set i (.dat a)).set j (.dat b)))) : Xs K W (tPar i j tr) Δ post := fun q G0 H0 G H σ T s k1 k2 k3 k4 k5 =>
  h q G0 H0 G H σ _ s (fun vs ds G1 H1 g1 r1 p1 => by
    obtain ⟨a, b, rfl, hp⟩ := k ds p1
    cases r1 with
    | cons ra rr =>
      cases rr with
      | cons rb rr =>
        cases rr
        exact ⟨_, _, rfl, k1 _ _ G1 H1 g1.ex (((s.go g1).set ra).set rb) hp⟩) fun C G1 H1 g x => k5 C σ Δ G1 H1 g.ex (s.go g) (hx C x)
theorem xs1_par {i j : Nat} {tr : TA} {a b : D} (h : Ea K (WE W) tr Δ (· = [a, b]) fun _ => False) (k : post (.nx ((Δ.set i (.dat a)).set j (.dat b)))) : Xs K W (tPar i j tr) Δ post := xs_par h (fun _ z => z.elim) fun ds z => ⟨a, b, z, k⟩
theorem xs_par3 {i j l : Nat} {tr : TA} {Rs : List D → Prop} (h : Ea K (WE W) tr Δ Rs X) (hx : ∀ C, X C → post (.ex C Δ)) (k : ∀ ds, Rs ds → ∃ a b c, ds = [a, b, c] ∧ post (.nx (((Δ.set i (.dat a)).set j (.dat b)).set l (.dat c)))) : Xs K W (tPar3 i j l tr) Δ post := fun q G0 H0 G H σ T s k1 k2 k3 k4 k5 =>
  h q G0 H0 G H σ _ s (fun vs ds G1 H1 g1 r1 p1 => by
    obtain ⟨a, b, c, rfl, hp⟩ := k ds p1
    cases r1 with
    | cons ra rr =>
      cases rr with
      | cons rb rr =>
        cases rr with
        | cons rc rr =>
          cases rr
          exact ⟨_, _, _, rfl, k1 _ _ G1 H1 g1.ex ((((s.go g1).set ra).set rb).set rc) hp⟩) fun C G1 H1 g x => k5 C σ Δ G1 H1 g.ex (s.go g) (hx C x)
theorem xs1_par3 {i j l : Nat} {tr : TA} {a b c : D} (h : Ea K (WE W) tr Δ (· = [a, b, c]) fun _ => False) (k : post (.nx (((Δ.set i (.dat a)).set j (.dat b)).set l (.dat c)))) : Xs K W (tPar3 i j l tr) Δ post := xs_par3 h (fun _ z => z.elim) fun ds z => ⟨a, b, c, z, k⟩
/-- a, b = [], y, the list one's own -/
theorem xs_par0 {i j : Nat} (hij : i ≠ j) (h : Ev K (WE W) te Δ R X) (hx : ∀ C, X C → post (.ex C Δ)) (k : ∀ d, R d → post (.nx ((Δ.set j (.dat d)).set i (.own [])))) : Xs K W (tPar i j (tCons (tLst tNil) (tCons te tNil))) Δ post := fun q G0 H0 G H σ T s k1 k2 k3 k4 k5 => by
  refine ⟨Nat.zero_le _, fun p hp => ?_⟩
  have g0 : Gr none G H G (upd H p (.lst [])) :=
    ⟨Exx.refl G, fun _ _ e => .inl e, fun a o e nt => by rw [upd_ne (ne_of_none (s.sub a o e nt) hp)]; exact s.sub a o e nt, fun a o _ e _ => by rw [upd_ne (ne_of_none e hp)]; exact e, Tbd.new hp, fun _ z => nomatch z⟩
  have s0 := s.go g0.any
  have hGp : Nt G p := fun o c => Classical.byContradiction fun n => by
    rw [s.sub p o c (fun ps z => n ⟨ps, z⟩)] at hp; cases hp
  have hH0 : Nt H0 p := s.gr.live s.hq (.of hp)
  have hqp : q ≠ some p := fun c => by
    obtain ⟨x, y, z, e⟩ := s.dq p c
    rw [hp] at e; cases e
  refine h q G0 H0 G _ σ _ s0 (fun v d G1 H1 g1 r1 p1 => ?_) fun C G1 H1 g x => k5 C σ Δ G1 H1 g.ex (s0.go g) (hx C x)
  have s1 := s0.go g1
  have hp1 : H1 p = some (.lst []) := g1.kl hqp upd_same
  have hG1 : Nt G1 p := g1.un hGp upd_same
  have other : ∀ (l : Nat) (as : Mu), Δ[l]? = some (Sl.mu as) → σ[l]? ≠ some (some (V.ref p)) := fun l as e z => by
    obtain ⟨p3, vs3, a1, a2, _⟩ := s.rs.mu l as e
    rw [a1] at z
    cases z
    rw [hp] at a2; cases a2
  have s2 := s1.set (i := j) r1
  have e1 : (σ.set i (some (V.ref p))).set j (some v) = (σ.set j (some v)).set i (some (V.ref p)) := List.set_comm _ _ hij
  refine ⟨_, _, rfl, ?_⟩
  rw [e1]
  refine k1 _ _ G1 H1 g1.ex ?_ (k d p1)
  -- the slot i holds p, which is none of the other lists
  have old : ∀ {l : Nat} {e : Sl}, ((Δ.set j (.dat d)).set i (Sl.own []))[l]? = some e → (l = i ∧ e = Sl.own [] ∧ i < Δ.length) ∨ (l ≠ i ∧ (Δ.set j (.dat d))[l]? = some e ∧ ((σ.set j (some v)).set i (some (V.ref p)))[l]? = (σ.set j (some v))[l]?) := fun {l e} he => by
    by_cases c : i = l
    · subst c
      have hl : i < Δ.length := by
        have := (List.getElem?_eq_some_iff.mp he).1
        simpa using this
      rw [List.getElem?_set_self (by simpa using hl)] at he
      cases he
      exact .inl ⟨rfl, rfl, hl⟩
    · rw [List.getElem?_set_ne c] at he
      exact .inr ⟨fun z => c z.symm, he, List.getElem?_set_ne c⟩
  have back : ∀ {l : Nat} {as : Mu}, (Δ.set j (Sl.dat d))[l]? = some (Sl.mu as) → Δ[l]? = some (Sl.mu as) ∧ (σ.set j (some v))[l]? = σ[l]? := fun {l as} e => by
    by_cases c : j = l
    · subst c
      have hl : j < Δ.length := by
        have := (List.getElem?_eq_some_iff.mp e).1
        simpa using this
      rw [List.getElem?_set_self hl] at e
      cases e
    · rw [List.getElem?_set_ne c] at e
      exact ⟨e, List.getElem?_set_ne c⟩
  refine ⟨s2.gr, s2.hq, s2.rs.sub, by simpa using s.rs.len, s2.rs.gq, s2.rs.tb, fun l e he => ?_, fun l bs he => ?_, fun l m bs cs p2 a1 a2 a3 a4 => ?_, fun l he => ?_⟩
  · rcases old he with ⟨_, c, _⟩ | ⟨_, c, c2⟩
    · cases c
    · rw [c2]; exact s2.rs.dat l e c
  · rcases old he with ⟨c1, c, hl⟩ | ⟨_, c, c2⟩
    · cases c
      subst c1
      exact ⟨p, .lst [], List.getElem?_set_self (by rw [List.length_set, s.rs.len]; exact hl), hp1, .lst .nil, hG1, hH0, hqp⟩
    · rw [c2]; exact s2.rs.mu l bs c
  · rcases old a1 with ⟨c1, _, hl⟩ | ⟨n1, c1, e1⟩
    · rcases old a2 with ⟨c2, _, _⟩ | ⟨n2, c2, e2⟩
      · rw [c1, c2]
      · subst c1
        rw [List.getElem?_set_self (by rw [List.length_set, s.rs.len]; exact hl)] at a3
        cases a3
        obtain ⟨b1, b2⟩ := back c2
        rw [e2, b2] at a4
        exact absurd a4 (other _ _ b1)
    · rcases old a2 with ⟨c2, _, hl⟩ | ⟨n2, c2, e2⟩
      · subst c2
        rw [List.getElem?_set_self (by rw [List.length_set, s.rs.len]; exact hl)] at a4
        cases a4
        obtain ⟨b1, b2⟩ := back c1
        rw [e1, b2] at a3
        exact absurd a3 (other _ _ b1)
      · rw [e1] at a3
        rw [e2] at a4
        exact s2.rs.difm l m bs cs p2 c1 c2 a3 a4
  · rcases old he with ⟨_, c, _⟩ | ⟨_, c, c2⟩
    · cases c
    · rw [c2]; exact s2.rs.dice l c
/-- x op= e -/
theorem xs_aug {i : Nat} {ip : TIp} {x : D} (hi : Δ[i]? = some (Sl.dat x)) (h : Ev K (WE W) te Δ R X) (hx : ∀ C, X C → post (.ex C Δ)) (hr : ∀ y, R y → ∃ z, OpD K ip x y (· = z) ∧ post (.nx (Δ.set i (.dat z)))) : Xs K W (tAug i te ip) Δ post := fun q G0 H0 G H σ T s k1 k2 k3 k4 k5 => by
  obtain ⟨v, h1, h2⟩ := s.rs.dat i x hi
  refine ⟨v, h1, ?_⟩
  refine h q G0 H0 G H σ _ s (fun w y G1 H1 g1 r1 p1 => ?_) fun C G1 H1 g x => k5 C σ Δ G1 H1 g.ex (s.go g) (hx C x)
  obtain ⟨z, ho, hp⟩ := hr y p1
  refine ho G1 H1 v w _ g1.sub (h2.ex g1.ex) r1 fun u d G2 H2 g2 rd e => ?_
  subst e
  exact k1 _ _ G2 H2 (g1.ex.trans g2.ex) (((s.go g1).go g2.any).set rd) hp
theorem xs1_aug {i : Nat} {ip : TIp} {x y z : D} (hi : Δ[i]? = some (Sl.dat x)) (h : Ev K (WE W) te Δ (· = y) fun _ => False) (hr : OpD K ip x y (· = z)) (k : post (.nx (Δ.set i (.dat z)))) : Xs K W (tAug i te ip) Δ post :=
  xs_aug hi h (fun _ z => z.elim) fun e w => by rw [w]; exact ⟨z, hr, k⟩
/-- raise C(..) -/
theorem xs_raise {C : Addr} (k : post (.ex C Δ)) : Xs K W (fun _ σ H => W (.ref C) none σ H) Δ post := fun q G0 H0 G H σ T s k1 k2 k3 k4 k5 => k5 C σ Δ G H (Exx.refl _) s k
/-- while -/
theorem xs_while (I : Nat → En → Prop) (m0 : Nat) (h0 : I m0 Δ) (hs : ∀ m Δ', I m Δ' → ∃ (Rt : Bool → Prop) (X : Addr → Prop), Et K (WE W) tt Δ' Rt X ∧ (∀ C, X C → post (.ex C Δ')) ∧
      (Rt true → Xs K W t Δ' fun o => match o with
        | .nx Δ2 => ∃ m', m' < m ∧ I m' Δ2
        | .ct Δ2 => ∃ m', m' < m ∧ I m' Δ2
        | .bk Δ2 => post (.nx Δ2)
        | o => post o) ∧ (Rt false → post (.nx Δ'))) : Xs K W (tWhile tt t) Δ post := fun q G0 H0 G H σ T s k1 k2 k3 k4 k5 => by
  refine ⟨fun m σ' H' => ∃ Δ' G', Exx G G' ∧ Sta K q G0 H0 G' H' σ' Δ' ∧ I m Δ', ⟨m0, Δ, G, Exx.refl _, s, h0⟩, ?_⟩
  rintro m σ1 H1 ⟨Δ1, G1, e1, s1, i1⟩
  obtain ⟨Rt, X, ht, hx, hb, hn⟩ := hs m Δ1 i1
  refine ht q G0 H0 G1 H1 σ1 _ s1 (fun b G2 H2 g2 p2 => ?_) fun C G2 H2 g x => k5 C σ1 Δ1 G2 H2 (e1.trans g.ex) (s1.go g) (hx C x)
  have s2 := s1.go g2
  have e2 := e1.trans g2.ex
  cases b with
  | false => exact iteF (k1 σ1 Δ1 G2 H2 e2 s2 (hn p2))
  | true =>
    refine iteT ⟨fun σ' H' => ∃ m', m' < m ∧ ∃ Δ' G', Exx G G' ∧ Sta K q G0 H0 G' H' σ' Δ' ∧ I m' Δ', fun σ' H' h => h, ?_⟩
    refine hb p2 q G0 H0 G2 H2 σ1 _ s2 (fun σ3 Δ3 G3 H3 e3 s3 p3 => ?_) (fun v d G3 H3 g3 r3 p3 => k2 v d G3 H3 g3 r3 p3) (fun σ3 Δ3 G3 H3 e3 s3 p3 => k1 σ3 Δ3 G3 H3 (e2.trans e3) s3 p3) (fun σ3 Δ3 G3 H3 e3 s3 p3 => ?_) fun C σ3 Δ3 G3 H3 e3 s3 p3 => k5 C σ3 Δ3 G3 H3 (e2.trans e3) s3 p3
    · obtain ⟨m', l, i3⟩ := p3
      exact ⟨m', l, Δ3, G3, e2.trans e3, s3, i3⟩
    · obtain ⟨m', l, i3⟩ := p3
      exact ⟨m', l, Δ3, G3, e2.trans e3, s3, i3⟩

/-! ### walks: what a loop or a comprehension goes through, as data -/
def Wk (K : PySem.W.Frag) (J : It) (G : Hp) (items : List D) : Prop := ∀ (G1 H1 : Hp), Exx G G1 → Exx G1 H1 →
  (∀ i, i < items.length → J.go i H1 ∧ ∀ x H2, J.yld i H1 x H2 → ∃ G2 d, Gr none G1 H1 G2 H2 ∧ items[i]? = some d ∧ Rp K G2 x d) ∧ J.stop items.length H1
def Ew (K : PySem.W.Frag) (E : L2.St → XK) (wi : TI) (Δ : En) (R : List D → Prop) (X : Addr → Prop) : Prop :=
  ∀ (q : Qd) (G0 H0 G H : Hp) (σ : L2.St) (Rj : It → Hp → Prop), Sta K q G0 H0 G H σ Δ →
    (∀ (J : It) (items : List D) (G' H' : Hp), Gr q G H G' H' → Wk K J G' items → R items → Rj J H') →
    (∀ (C : Addr) (G' H' : Hp), Gr q G H G' H' → X C → E σ (.ref C) none H') → wi σ H Rj
theorem xs_for {wi : TI} {g : TG} {Rw : List D → Prop} (hw : Ew K (WE W) wi Δ Rw X) (hx : ∀ C, X C → post (.ex C Δ)) (I : List D → Nat → En → Prop) (h0 : ∀ items, Rw items → I items 0 Δ)
    (hs : ∀ items i d Δ', Rw items → items[i]? = some d → I items i Δ' → ∃ js Δ2, Tg K g js Δ' d Δ2 ∧ Xs K W t Δ2 fun o => match o with
      | .nx Δ3 => I items (i + 1) Δ3
      | .ct Δ3 => I items (i + 1) Δ3
      | .bk Δ3 => post (.nx Δ3)
      | o => post o) (hd : ∀ items Δ', Rw items → I items items.length Δ' → post (.nx Δ')) : Xs K W (tFor wi g t) Δ post := fun q G0 H0 G H σ T s k1 k2 k3 k4 k5 => by
  refine hw q G0 H0 G H σ _ s (fun J items Gw Hw gw wk rw_ => ?_) fun C G1 H1 g x => k5 C σ Δ G1 H1 g.ex (s.go g) (hx C x)
  refine ⟨fun i m σ' H' => m = items.length - i ∧ i ≤ items.length ∧ ∃ Δ' G', Exx Gw G' ∧ Sta K q G0 H0 G' H' σ' Δ' ∧ I items i Δ', ⟨items.length, rfl, Nat.zero_le _, Δ, Gw, Exx.refl _, s.go gw, h0 items rw_⟩, ?_⟩
  rintro i m σ1 H1 ⟨rfl, hi, Δ1, G1, e1, s1, i1⟩
  obtain ⟨wg, ws⟩ := wk G1 H1 e1 s1.sub
  by_cases hlt : i < items.length
  · obtain ⟨go, yl⟩ := wg i hlt
    refine .inr ⟨go, fun σ' H' => ∃ Δ' G', Exx Gw G' ∧ Sta K q G0 H0 G' H' σ' Δ' ∧ I items (i + 1) Δ', fun σ' H' ⟨Δ', G', a, b, c⟩ => ⟨items.length - (i + 1), by omega, rfl, hlt, Δ', G', a, b, c⟩, fun x H2 y => ?_⟩
    obtain ⟨G2, d, g2, hd', rx⟩ := yl x H2 y
    have s2 := s1.go g2.any
    obtain ⟨js, Δ2, ht, hb⟩ := hs items i d Δ1 rw_ hd' i1
    refine ht q G0 H0 G2 H2 σ1 x _ s2 rx fun σ3 s3 _ => ?_
    have e2 := e1.trans g2.ex
    exact hb q G0 H0 G2 H2 σ3 _ s3 (fun σ4 Δ4 G4 H4 e4 s4 p4 => ⟨Δ4, G4, e2.trans e4, s4, p4⟩) k2 (fun σ4 Δ4 G4 H4 e4 s4 p4 => k1 σ4 Δ4 G4 H4 (gw.ex.trans (e2.trans e4)) s4 p4) (fun σ4 Δ4 G4 H4 e4 s4 p4 => ⟨Δ4, G4, e2.trans e4, s4, p4⟩)
      fun C σ4 Δ4 G4 H4 e4 s4 p4 => k5 C σ4 Δ4 G4 H4 (gw.ex.trans (e2.trans e4)) s4 p4
  · have e : i = items.length := by omega
    subst e
    exact .inl ⟨ws, k1 σ1 Δ1 G1 H1 (gw.ex.trans e1) s1 (hd items Δ1 rw_ i1)⟩
/-- items that are known -/
theorem xs1_for {wi : TI} {g : TG} {items : List D} (hw : Ew K (WE W) wi Δ (· = items) fun _ => False) (I : Nat → En → Prop) (h0 : I 0 Δ)
    (hs : ∀ i d Δ', items[i]? = some d → I i Δ' → ∃ js Δ2, Tg K g js Δ' d Δ2 ∧ Xs K W t Δ2 fun o => match o with
      | .nx Δ3 => I (i + 1) Δ3
      | .ct Δ3 => I (i + 1) Δ3
      | .bk Δ3 => post (.nx Δ3)
      | o => post o) (hd : ∀ Δ', I items.length Δ' → post (.nx Δ')) : Xs K W (tFor wi g t) Δ post :=
  xs_for hw (fun _ z => z.elim) (fun _ i Δ' => I i Δ') (fun _ _ => h0) (fun it i d Δ' e hi' i1 => hs i d Δ' (by rw [← e]; exact hi') i1) fun it Δ' e i1 => hd Δ' (by rw [← e]; exact i1)
end
end Ts


namespace Ts
variable [Tt]
open PySem PySem.Spec PyProof.Rows L2

section
variable {K : PySem.W.Frag} {E : L2.St → XK} {W : WX} {Δ : En} {te ta tb : TE} {tt : TT} {R : D → Prop} {X : Addr → Prop} {wi wj : TI} {Rw : List D → Prop}
theorem ew_inl (h : Ew K E wi Δ Rw X) : Ew K E (fun σ H Rj => wi σ H Rj ∨ wj σ H Rj) Δ Rw X := fun q G0 H0 G H σ Rj s k kx => .inl (h q G0 H0 G H σ Rj s k kx)
theorem ew_inr (h : Ew K E wj Δ Rw X) : Ew K E (fun σ H Rj => wi σ H Rj ∨ wj σ H Rj) Δ Rw X := fun q G0 H0 G H σ Rj s k kx => .inr (h q G0 H0 G H σ Rj s k kx)
theorem ew_list (h : Ev K E te Δ (fun d => ∃ ds, d = .lst ds ∧ Rw ds) X) : Ew K E (iList K te) Δ Rw X := fun q G0 H0 G H σ Rj s k kx =>
  h q G0 H0 G H σ _ s (fun v d G1 H1 g1 r1 p1 => by
    obtain ⟨ds, rfl, hp⟩ := p1
    obtain ⟨a, xs, rfl, ha, hr⟩ := r1.lst_inv
    refine ⟨a, rfl, ⟨xs, .inl (.inl (g1.sub.l ha))⟩, k (Itl K a) ds G1 H1 g1 (fun G2 H2 e2 e3 => ?_) hp⟩
    have hq : SqL K H2 a xs := .inl (.inl (e3.l (e2.l ha)))
    have hl := hr.length
    refine ⟨fun i hi => ⟨⟨xs, xs[i]'(by omega), hq, by simp [show i < xs.length by omega]⟩, fun x H3 y => ?_⟩, ⟨xs, hq, by omega⟩⟩
    obtain ⟨e, y⟩ := y
    subst e
    obtain ⟨d, hd, rd⟩ := hr.getV (y xs hq)
    exact ⟨G2, d, Gr.refl e3, hd, rd.ex e2⟩) kx
theorem ew_tup (h : Ev K E te Δ (fun d => ∃ ds, d = .tup ds ∧ Rw ds) X) : Ew K E (iTup K te) Δ Rw X := fun q G0 H0 G H σ Rj s k kx =>
  h q G0 H0 G H σ _ s (fun v d G1 H1 g1 r1 p1 => by
    obtain ⟨ds, rfl, hp⟩ := p1
    obtain ⟨a, xs, rfl, ha, hr⟩ := r1.tup_inv
    refine ⟨a, rfl, ⟨xs, st_ex g1.sub ha⟩, k (Itt K a) ds G1 H1 g1 (fun G2 H2 e2 e3 => ?_) hp⟩
    have hq : SqT K H2 a xs := st_ex e3 (st_ex e2 ha)
    have hl := hr.length
    refine ⟨fun i hi => ⟨⟨xs, xs[i]'(by omega), hq, by simp [show i < xs.length by omega]⟩, fun x H3 y => ?_⟩, ⟨xs, hq, by omega⟩⟩
    obtain ⟨e, y⟩ := y
    subst e
    obtain ⟨d, hd, rd⟩ := hr.getV (y xs hq)
    exact ⟨G2, d, Gr.refl e3, hd, rd.ex e2⟩) kx
/-- a text's signs -/
def signs (z : Str) : List D := z.cps.toList.map fun c => .str ⟨#[c]⟩
theorem ew_str (h : Ev K E te Δ (fun d => ∃ z, d = .str z ∧ Rw (signs z)) X) : Ew K E (iStr te) Δ Rw X := fun q G0 H0 G H σ Rj s k kx =>
  h q G0 H0 G H σ _ s (fun v d G1 H1 g1 r1 p1 => by
    obtain ⟨z, rfl, hp⟩ := p1
    cases r1
    refine ⟨z, rfl, k (Its z) (signs z) G1 H1 g1 (fun G2 H2 e2 e3 => ?_) hp⟩
    have hl : (signs z).length = z.cps.size := by simp [signs]
    refine ⟨fun i hi => ⟨by rw [hl] at hi; exact hi, fun x H3 y => ?_⟩, by rw [hl]; exact Nat.le_refl _⟩
    obtain ⟨e, c, hc, ex⟩ := y
    subst e
    subst ex
    exact ⟨G2, .str ⟨#[c]⟩, Gr.refl e3, by simp [signs, hc], .str _⟩) kx
/-- lo, lo + c, .. -/
def rngD (lo c : Int) (n : Nat) : List D := (List.range n).map fun i => .int (lo + (i : Nat) * c)
theorem rngD_get {lo c : Int} {n i : Nat} (h : i < n) : (rngD lo c n)[i]? = some (.int (lo + (i : Nat) * c)) := by simp [rngD, h]
theorem rngD_len {lo c : Int} {n : Nat} : (rngD lo c n).length = n := by simp [rngD]
theorem rngD_of {lo c : Int} {n i : Nat} {d : D} (h : (rngD lo c n)[i]? = some d) : i < n ∧ d = .int (lo + (i : Nat) * c) := by
  have h1 : i < n := by
    have := (List.getElem?_eq_some_iff.mp h).1
    rwa [rngD_len] at this
  rw [rngD_get h1] at h
  exact ⟨h1, (Option.some.inj h).symm⟩
theorem wk_range {lo : Int} {n : Nat} {G : Hp} : Wk K (Itr lo n) G (rngD lo 1 n) := fun G2 H2 e2 e3 => by
  refine ⟨fun i hi => ⟨by rw [rngD_len] at hi; exact hi, fun x H3 y => ?_⟩, by rw [rngD_len]; exact Nat.le_refl _⟩
  obtain ⟨e, ex⟩ := y
  subst e
  subst ex
  rw [rngD_len] at hi
  exact ⟨G2, _, Gr.refl e3, rngD_get hi, by rw [Int.mul_one]; exact .int _⟩
theorem wk_rangeC {lo c : Int} {n : Nat} {G : Hp} : Wk K (Itc lo c n) G (rngD lo c n) := fun G2 H2 e2 e3 => by
  refine ⟨fun i hi => ⟨by rw [rngD_len] at hi; exact hi, fun x H3 y => ?_⟩, by rw [rngD_len]; exact Nat.le_refl _⟩
  obtain ⟨e, ex⟩ := y
  subst e
  subst ex
  rw [rngD_len] at hi
  exact ⟨G2, _, Gr.refl e3, rngD_get hi, .int _⟩
theorem ew_rng1 (h : Ev K E te Δ (fun d => ∃ j : Int, d = .int j ∧ -(2 ^ 62) ≤ j ∧ j < 2 ^ 62 ∧ Rw (rngD 0 1 j.toNat)) X) : Ew K E (iRng1 (tCons te tNil)) Δ Rw X := fun q G0 H0 G H σ Rj s k kx =>
  h q G0 H0 G H σ _ s (fun v d G1 H1 g1 r1 p1 => by
    obtain ⟨j, rfl, h1, h2, hp⟩ := p1
    cases r1
    exact ⟨j, rfl, h1, h2, k _ _ G1 H1 g1 wk_range hp⟩) kx
theorem ew_rng2 (h : Ev K E ta Δ R X) (h' : ∀ a, R a → Ev K E tb Δ (fun d => ∃ i j : Int, a = .int i ∧ d = .int j ∧ (-(2 ^ 62) ≤ i ∧ i < 2 ^ 62 ∧ -(2 ^ 62) ≤ j ∧ j < 2 ^ 62) ∧ Rw (rngD i 1 (j - i).toNat)) X) : Ew K E (iRng2 (tCons ta (tCons tb tNil))) Δ Rw X := fun q G0 H0 G H σ Rj s k kx =>
  h q G0 H0 G H σ _ s (fun v a G1 H1 g1 r1 p1 => h' a p1 q G0 H0 G1 H1 σ _ (s.go g1) (fun u d G2 H2 g2 r2 p2 => by
    obtain ⟨i, j, rfl, rfl, hb, hp⟩ := p2
    cases r1
    cases r2
    exact ⟨i, j, rfl, hb, k _ _ G2 H2 (s.tr g1 g2) wk_range hp⟩) fun C G' H' g x => kx C G' H' (s.tr g1 g) x) kx
theorem ew_rng3 {a b c : Int} {n : Nat} (h1 : Ev K E ta Δ (· = .int a) X) (h2 : Ev K E tb Δ (· = .int b) X) (h3 : Ev K E te Δ (· = .int c) X) (hr : RgC a b c n) : Ew K E (iRng3 (tCons ta (tCons tb (tCons te tNil)))) Δ (· = rngD a c n) X := fun q G0 H0 G H σ Rj s k kx =>
  h1 q G0 H0 G H σ _ s (fun v d1 G1 H1 g1 r1 p1 => h2 q G0 H0 G1 H1 σ _ (s.go g1) (fun u d2 G2 H2 g2 r2 p2 => h3 q G0 H0 G2 H2 σ _ (s.go (s.tr g1 g2)) (fun x d3 G3 H3 g3 r3 p3 => by
    subst p1; subst p2; subst p3
    cases r1; cases r2; cases r3
    exact ⟨a, b, c, n, rfl, hr, k _ _ G3 H3 (s.tr (s.tr g1 g2) g3) wk_rangeC rfl⟩) fun C G' H' g x => kx C G' H' (s.tr (s.tr g1 g2) g) x) fun C G' H' g x => kx C G' H' (s.tr g1 g) x) kx
/-- (0, a), (1, b), .. -/
def enumD (ds : List D) : List D := ds.mapIdx fun i d => .tup [.int (i : Nat), d]
theorem enumD_get {ds : List D} {i : Nat} {d : D} (h : ds[i]? = some d) : (enumD ds)[i]? = some (.tup [.int (i : Nat), d]) := by simp [enumD, h]
theorem enumD_len {ds : List D} : (enumD ds).length = ds.length := by simp [enumD]
theorem enumD_of {ds : List D} {i : Nat} {e : D} (h : (enumD ds)[i]? = some e) : ∃ d, ds[i]? = some d ∧ e = .tup [.int (i : Nat), d] := by
  have h1 : i < ds.length := by
    have := (List.getElem?_eq_some_iff.mp h).1
    rwa [enumD_len] at this
  refine ⟨ds[i], List.getElem?_eq_getElem h1, ?_⟩
  rw [enumD_get (List.getElem?_eq_getElem h1)] at h
  exact (Option.some.inj h).symm
theorem ew_enum (h : Ev K E te Δ (fun d => ∃ ds, d = .lst ds ∧ Rw (enumD ds)) X) : Ew K E (iEnum K (tCons te tNil)) Δ Rw X := fun q G0 H0 G H σ Rj s k kx =>
  h q G0 H0 G H σ _ s (fun v d G1 H1 g1 r1 p1 => by
    obtain ⟨ds, rfl, hp⟩ := p1
    obtain ⟨a, xs, rfl, ha, hr⟩ := r1.lst_inv
    refine ⟨a, xs, rfl, .inl (.inl (g1.sub.l ha)), k (Ite K a) (enumD ds) G1 H1 g1 (fun G2 H2 e2 e3 => ?_) hp⟩
    have hq : SqL K H2 a xs := .inl (.inl (e3.l (e2.l ha)))
    have hl := hr.length
    rw [enumD_len]
    refine ⟨fun i hi => ⟨⟨xs, xs[i]'(by omega), hq, by simp [show i < xs.length by omega]⟩, fun x H3 y => ?_⟩, ⟨xs, hq, by omega⟩⟩
    obtain ⟨T, z, rfl, hT, rfl, y⟩ := y
    obtain ⟨d, hd, rd⟩ := hr.getV (y xs hq)
    have g := Gr.new (o := .tup [.int (i : Nat), z]) e3 hT
    exact ⟨_, _, g, enumD_get hd, .tup (.inl (.inl upd_same)) (.cons (.int _) (.cons (rd.ex (e2.trans g.ex)) .nil))⟩) kx
/-- pairs -/
def zipD (as bs : List D) : List D := List.zipWith (fun a b => .tup [a, b]) as bs
theorem zipD_get {as bs : List D} {i : Nat} {a b : D} (h1 : as[i]? = some a) (h2 : bs[i]? = some b) : (zipD as bs)[i]? = some (.tup [a, b]) := by simp [zipD, List.getElem?_zipWith, h1, h2]
theorem zipD_len {as bs : List D} : (zipD as bs).length = min as.length bs.length := by simp [zipD]
theorem zipD_of {as bs : List D} {i : Nat} {e : D} (h : (zipD as bs)[i]? = some e) : ∃ a b, as[i]? = some a ∧ bs[i]? = some b ∧ e = .tup [a, b] := by
  have h1 : i < min as.length bs.length := by
    have := (List.getElem?_eq_some_iff.mp h).1
    rwa [zipD_len] at this
  have ha : as[i]? = some as[i] := List.getElem?_eq_getElem (by omega)
  have hb : bs[i]? = some bs[i] := List.getElem?_eq_getElem (by omega)
  refine ⟨_, _, ha, hb, ?_⟩
  rw [zipD_get ha hb] at h
  exact (Option.some.inj h).symm
theorem ew_zip (h : Ev K E ta Δ R X) (h' : ∀ d, R d → Ev K E tb Δ (fun e => ∃ as bs, d = .lst as ∧ e = .lst bs ∧ Rw (zipD as bs)) X) : Ew K E (iZip K (tCons ta (tCons tb tNil))) Δ Rw X := fun q G0 H0 G H σ Rj s k kx =>
  h q G0 H0 G H σ _ s (fun v d G1 H1 g1 r1 p1 => h' d p1 q G0 H0 G1 H1 σ _ (s.go g1) (fun u e G2 H2 g2 r2 p2 => by
    obtain ⟨as, bs, rfl, rfl, hp⟩ := p2
    obtain ⟨a, xs, rfl, ha, hr⟩ := (r1.ex g2.ex).lst_inv
    obtain ⟨b, ys, rfl, hb, hr2⟩ := r2.lst_inv
    refine ⟨a, b, xs, ys, rfl, .inl (.inl (g2.sub.l ha)), .inl (.inl (g2.sub.l hb)), k (Itz K a b) (zipD as bs) G2 H2 (s.tr g1 g2) (fun G3 H3 e2 e3 => ?_) hp⟩
    have hq : SqL K H3 a xs := .inl (.inl (e3.l (e2.l ha)))
    have hq2 : SqL K H3 b ys := .inl (.inl (e3.l (e2.l hb)))
    have hl := hr.length
    have hl2 := hr2.length
    rw [zipD_len]
    refine ⟨fun i hi => ⟨⟨xs, ys, xs[i]'(by omega), ys[i]'(by omega), hq, hq2, by simp [show i < xs.length by omega], by simp [show i < ys.length by omega]⟩, fun x H4 y => ?_⟩, ⟨xs, ys, hq, hq2, by omega⟩⟩
    obtain ⟨T, z, z2, rfl, hT, rfl, y1, y2⟩ := y
    obtain ⟨d, hd, rd⟩ := hr.getV (y1 xs hq)
    obtain ⟨d2, hd2, rd2⟩ := hr2.getV (y2 ys hq2)
    have g := Gr.new (o := .tup [z, z2]) e3 hT
    exact ⟨_, _, g, zipD_get hd hd2, .tup (.inl (.inl upd_same)) (.cons (rd.ex (e2.trans g.ex)) (.cons (rd2.ex (e2.trans g.ex)) .nil))⟩) fun C G' H' g x => kx C G' H' (s.tr g1 g) x) kx

/-! ### comprehensions -/
def wipeE (Δ : En) : List Nat → En
  | [] => Δ
  | v :: vs => (wipeE Δ vs).set v .no
theorem sta_wipe {q : Qd} {G0 H0 G H : Hp} {σ : L2.St} (s : Sta K q G0 H0 G H σ Δ) : ∀ vs : List Nat, Sta K q G0 H0 G H (wipe σ vs) (wipeE Δ vs)
  | [] => s
  | v :: vs => (sta_wipe s vs).setAny
theorem wipe_wipe {σ : L2.St} : ∀ {vs us : List Nat}, (∀ v ∈ us, v ∈ vs) → wipe (wipe σ us) vs = wipe σ vs
  | _, [], _ => rfl
  | vs, u :: us, h => by
    show wipe ((wipe σ us).set u none) vs = wipe σ vs
    rw [wipe_set_in (h u List.mem_cons_self)]
    exact wipe_wipe fun v hv => h v (List.mem_cons_of_mem _ hv)
abbrev E00 : L2.St → XK := fun _ _ _ _ => False
theorem ev_lc {g : TG} {vs : List Nat} {E : L2.St → XK} (hw : Ew K E wi Δ Rw X) (I : List D → Nat → List D → Prop) (h0 : ∀ items, Rw items → I items 0 [])
    (hs : ∀ items i d acc, Rw items → items[i]? = some d → I items i acc → ∃ js Δ2, (∀ j ∈ js, j ∈ vs) ∧ Tg K g js (wipeE Δ vs) d Δ2 ∧
      Et K E00 tt Δ2 (fun b => (b = true → Ev K E00 te Δ2 (fun e => acc.length < sizeLine ∧ I items (i + 1) (acc ++ [e])) fun _ => False) ∧ (b = false → I items (i + 1) acc)) fun _ => False)
    (hd : ∀ items acc, Rw items → I items items.length acc → R (.lst acc)) : Ev K E (tLc wi g tt te vs) Δ R X := fun q G0 H0 G H σ Q s k kx => by
  refine hw q G0 H0 G H σ _ s (fun J items Gw Hw gw wk rw_ => ?_) kx
  intro Dl hDl
  have hHD : Nt H Dl := gw.live s.dq (.of hDl)
  have hqD : q ≠ some Dl := fun c => by
    obtain ⟨x, y, z, e⟩ := (s.go gw).dq Dl c
    rw [hDl] at e; cases e
  have hGw : Nt Gw Dl := fun o c => Classical.byContradiction fun n => by
    rw [gw.sub Dl o c (fun ps z => n ⟨ps, z⟩)] at hDl; cases hDl
  have nop : ∀ {F : Hp} {a : Addr} {o : HO}, Nt F Dl → F a = some o → (∀ ps, o ≠ HO.tbl ps) → a ≠ Dl := fun n e nt z => by
    rw [z] at e
    obtain ⟨ps, h⟩ := n _ e
    exact nt ps h
  -- writing the list that grows
  have put : ∀ {G1 H1 : Hp} {ws : List V}, Gr q G H G1 H1 → Nt G1 Dl → (H1 Dl = none ∨ ∃ us, H1 Dl = some (.lst us)) → Gr q G H G1 (upd H1 Dl (.lst ws)) := fun {G1 H1 ws} g1 n1 h1 => by
    have tb : Tbd H1 (upd H1 Dl (.lst ws)) := by
      rcases h1 with h1 | ⟨us, h1⟩
      · exact .new h1
      · exact .chg h1
    refine ⟨g1.ex, g1.nw, fun a o e nt => ?_, fun a o c e nt => ?_, fun t => tb (g1.tk t), fun a c d => ?_⟩
    · rw [upd_ne (nop n1 e nt)]; exact g1.sub a o e nt
    · rw [upd_ne (nop hHD e nt)]; exact g1.keep a o c e nt
    · have : a ≠ Dl := fun z => by rw [z] at c; exact hqD c
      obtain ⟨x, y, z, e⟩ := g1.dq a c d
      exact ⟨x, y, z, by rw [upd_ne this]; exact e⟩
  refine ⟨fun i m H' => m = items.length - i ∧ i ≤ items.length ∧ ∃ G' ws acc, Gr q G H G' H' ∧ Exx Gw G' ∧ Nt G' Dl ∧ H' Dl = some (.lst ws) ∧ RpL K G' ws acc ∧ I items i acc,
    ⟨items.length, rfl, Nat.zero_le _, Gw, [], [], put gw hGw (.inl hDl), Exx.refl _, hGw, upd_same, .nil, h0 items rw_⟩, ?_⟩
  rintro i m H1 ⟨rfl, hi, G1, ws, acc, g1, e1, n1, hD1, r1, i1⟩
  obtain ⟨wg, wst⟩ := wk G1 H1 e1 g1.sub
  by_cases hlt : i < items.length
  · obtain ⟨go, yl⟩ := wg i hlt
    refine .inr ⟨go, fun H' => ∃ G' ws acc, Gr q G H G' H' ∧ Exx Gw G' ∧ Nt G' Dl ∧ H' Dl = some (.lst ws) ∧ RpL K G' ws acc ∧ I items (i + 1) acc, fun H' h => ⟨items.length - (i + 1), by omega, rfl, hlt, h⟩, fun x H2 y => ?_⟩
    obtain ⟨G2, d, g2, hd', rx⟩ := yl x H2 y
    have s1 := s.go g1
    have s2 := sta_wipe (s1.go g2.any) vs
    obtain ⟨js, Δ2, hjs, ht, hb⟩ := hs items i d acc rw_ hd' i1
    refine ht q G0 H0 G2 H2 (wipe σ vs) x _ s2 rx fun σ3 s3 w3 => ⟨(w3 vs hjs).trans (wipe_wipe fun v hv => hv), ?_⟩
    have keepD : ∀ {G5 H5 : Hp}, Gr q G1 H1 G5 H5 → Nt G5 Dl ∧ H5 Dl = some (.lst ws) := fun {G5 H5} g5 => ⟨g5.un n1 hD1, g5.kl hqD hD1⟩
    refine hb q G0 H0 G2 H2 σ3 _ s3 (fun b G3 H3 g3 p3 => ?_) fun _ _ _ _ z => z.elim
    have g13 : Gr q G1 H1 G3 H3 := s1.tr g2.any g3
    cases b with
    | false =>
      obtain ⟨a1, a2⟩ := keepD g13
      exact iteF ⟨G3, ws, acc, s.tr g1 g13, e1.trans g13.ex, a1, a2, r1.ex g13.ex, p3.2 rfl⟩
    | true =>
      refine iteT ((p3.1 rfl) q G0 H0 G3 H3 σ3 _ (s3.go g3) (fun u e G4 H4 g4 r4 p4 => ?_) fun _ _ _ _ z => z.elim)
      have g14 : Gr q G1 H1 G4 H4 := s1.tr g13 g4
      obtain ⟨a1, a2⟩ := keepD g14
      refine ⟨ws, a2, by rw [r1.length]; exact p4.1, G4, ws ++ [u], acc ++ [e], put (s.tr g1 g14) a1 (.inr ⟨_, a2⟩), e1.trans g14.ex, a1, upd_same, (r1.ex g14.ex).append (.cons r4 .nil), p4.2⟩
  · have e : i = items.length := by omega
    subst e
    refine .inl ⟨wst, ?_⟩
    have ex' : Exx G1 (upd G1 Dl (.lst ws)) := fun a o e nt => by rw [upd_ne (nop n1 e nt)]; exact e
    refine k (.ref Dl) (.lst acc) (upd G1 Dl (.lst ws)) H1 ⟨g1.ex.trans ex', fun a o e => ?_, fun a o e nt => ?_, g1.keep, g1.tk, g1.dq⟩ (.lst upd_same (r1.ex ex')) (hd items acc rw_ i1)
    · by_cases c : a = Dl
      · rw [c]; exact .inr hHD
      · rw [upd_ne c] at e; exact g1.nw a o e
    · by_cases c : a = Dl
      · rw [c, upd_same] at e; rw [c, ← e]; exact hD1
      · rw [upd_ne c] at e; exact g1.sub a o e nt
theorem et_yes {E : L2.St → XK} : Et K E tYes Δ (· = true) X := fun q G0 H0 G H σ Q s k _ => k true G H s.rf rfl
/-- [f(x) for x in items], no test, each with its value -/
theorem ev1_lc {g : TG} {vs : List Nat} {E : L2.St → XK} {items : List D} (f : Nat → D → D) (hw : Ew K E wi Δ (· = items) X) (hl : items.length ≤ 1000000)
    (hs : ∀ i d, items[i]? = some d → ∃ js Δ2, (∀ j ∈ js, j ∈ vs) ∧ Tg K g js (wipeE Δ vs) d Δ2 ∧ Ev K E00 te Δ2 (· = f i d) fun _ => False) : Ev K E (tLc wi g tYes te vs) Δ (· = .lst (items.mapIdx f)) X := by
  refine ev_lc hw (fun its i acc => acc = (its.take i).mapIdx f) (fun its _ => rfl) (fun its i d acc e hi ea => ?_) fun its acc e ea => ?_
  · subst e
    obtain ⟨js, Δ2, h1, h2, h3⟩ := hs i d hi
    have hlt := (List.getElem?_eq_some_iff.mp hi).1
    refine ⟨js, Δ2, h1, h2, et_yes.imp fun b eb => ⟨fun _ => h3.imp fun z ez => ⟨?_, ?_⟩, fun c => by rw [eb] at c; cases c⟩⟩
    · rw [ea, List.length_mapIdx, List.length_take]
      exact szlt (by omega)
    · have et : its.take (i + 1) = its.take i ++ [d] := by
        rw [List.take_add_one, hi]; rfl
      rw [et, List.mapIdx_append, ea, ez]
      have lt : (its.take i).length = i := by rw [List.length_take]; omega
      simp [lt]
  · subst e
    rw [ea, List.take_length]

/-! ### a def keeps its promise -/
def fnP (post : List D → Res → Prop) (ds : List D) : Out → Prop
  | .nx _ => post ds (.ret .non)
  | .rt d => post ds (.ret d)
  | .ex C _ => post ds (.exc C)
  | _ => False
/-- the slots at the entry -/
def argsE (N : List Str) (ds : List D) : En := ds.map Sl.dat ++ List.replicate (N.length - ds.length) Sl.no
theorem start_get {N : List Str} {vs : List V} {i : Nat} {v : V} (h : vs[i]? = some v) : (L2.start N vs)[i]? = some (some v) := by
  unfold L2.start
  have hl : i < vs.length := (List.getElem?_eq_some_iff.mp h).1
  rw [List.getElem?_append_left (by simpa using hl), List.getElem?_map, h]
  rfl
theorem argsE_get {N : List Str} {ds : List D} {i : Nat} {e : Sl} (h : (argsE N ds)[i]? = some e) : (∃ d, ds[i]? = some d ∧ e = .dat d) ∨ e = .no := by
  unfold argsE at h
  by_cases hi : i < ds.length
  · rw [List.getElem?_append_left (by simpa using hi), List.getElem?_map, List.getElem?_eq_getElem hi] at h
    exact .inl ⟨_, List.getElem?_eq_getElem hi, (Option.some.inj h).symm⟩
  · rw [List.getElem?_append_right (by simpa using hi), List.getElem?_replicate] at h
    split at h
    · exact .inr (Option.some.inj h).symm
    · cases h
theorem sta_args {G H : Hp} {N : List Str} {vs : List V} {ds : List D} (he : Exx G H) (tb : TbOk H) (r : RpL K G vs ds) (hl : ds.length ≤ N.length) : Sta K none G H G H (L2.start N vs) (argsE N ds) := by
  refine Sta.start ⟨he, ?_, fun a e => (nomatch e), tb, fun i d h => ?_, fun i bs h => ?_, fun i j bs cs p h => ?_, fun i h => ?_⟩
  · unfold L2.start argsE
    simp [r.length]
  · rcases argsE_get h with ⟨e, h1, h2⟩ | h1
    · cases h2
      obtain ⟨v, hv, rv⟩ := r.get h1
      exact ⟨v, start_get hv, rv⟩
    · cases h1
  · rcases argsE_get h with ⟨e, _, h2⟩ | h1
    · cases h2
    · cases h1
  · rcases argsE_get h with ⟨e, _, h2⟩ | h1
    · cases h2
    · cases h1
  · rcases argsE_get h with ⟨e, _, h2⟩ | h1
    · cases h2
    · cases h1
section
variable {P : Program} {w : World} {mg : Str → Option Value} {base : Heap} {x qual : Str} {params : Arguments} {body : List Stmt} {scope : Scope} {dvs : List V} {kws : List (Str × V)} {f : Addr} {fd : FuncData} {N ps : List Str} {k : Nat} {pre : List D → Prop} {post : List D → Res → Prop}
abbrev wDef (E : XK) : WX := fun cls d _ H => E cls d H
theorem fn_D {t : WX → TS} (F : FunD K x qual params body scope dvs kws f fd) (S : FnScope N ps scope) (hp : ∀ ds, pre ds → ds.length = ps.length)
    (der : ∀ (cdv : Value) (A : Around) (outer : List Env) (s : Shared) (H : Hp) (E : XK), Room k (A.deeper (envOfC qual scope s.heap.objs.size f cdv)) → PSs (cxOf (L2.CX P w) P w K mg base N qual scope f cdv A outer s H E) body (t (wDef E)))
    (h : ∀ (W : WX) ds, pre ds → Xs K W (t W) (argsE N ds) (fnP post ds)) : FnOk P w K mg base (L2.CX P w) (k + 1) f fd ps (spD K pre post) := by
  have hNl : ps.length ≤ N.length := by have := congrArg List.length S.pre; rw [List.length_take] at this; omega
  refine F.ok S (fun vs H Q E hsp => ?_) fun cdv A outer s H vs Q E hr hsp => ⟨t (wDef E), der cdv A outer s H E hr, ?_⟩
  · obtain ⟨G, ds, _, _, r, p, _⟩ := hsp
    rw [r.length]; exact hp ds p
  · obtain ⟨G, ds, e, tb, r, p, k1, k2⟩ := hsp
    have hl : ds.length ≤ N.length := by rw [hp ds p]; exact hNl
    exact h (wDef E) ds p none G H G H (L2.start N vs) _ (sta_args e tb r hl) (fun σ' Δ' G' H' e' s' q => k1 .non .non G' H' s'.gr .non q) (fun v d G' H' g rv q => k1 v d G' H' g rv (q.rt fun _ _ z => z)) (fun _ _ _ _ _ _ z => False.elim z) (fun _ _ _ _ _ _ z => False.elim z) fun C σ' Δ' G' H' e' s' q => k2 C G' H' s'.gr q
/-- the slots at the entry of a def that gets the dice first -/
def argsQ (N : List Str) (ds : List D) : En := Sl.dice :: (ds.map Sl.dat ++ List.replicate (N.length - ds.length - 1) Sl.no)
theorem sta_argsQ {G H : Hp} {N : List Str} {a : Addr} {vs : List V} {ds : List D} (he : Exx G H) (n : Nt G a) (dq : DiceAt H a) (tb : TbOk H) (r : RpL K G vs ds) (hl : ds.length + 1 ≤ N.length) : Sta K (some a) G H G H (L2.start N (.ref a :: vs)) (argsQ N ds) := by
  have g0 : ∀ {i : Nat} {e : Sl}, (argsQ N ds)[i]? = some e → (i = 0 ∧ e = .dice) ∨ (∃ j d, i = j + 1 ∧ ds[j]? = some d ∧ e = .dat d) ∨ e = .no := fun {i e} h => by
    cases i with
    | zero => exact .inl ⟨rfl, (Option.some.inj h).symm⟩
    | succ j =>
      have h' : (ds.map Sl.dat ++ List.replicate (N.length - ds.length - 1) Sl.no)[j]? = some e := by simpa [argsQ] using h
      by_cases hi : j < ds.length
      · rw [List.getElem?_append_left (by simpa using hi), List.getElem?_map, List.getElem?_eq_getElem hi] at h'
        exact .inr (.inl ⟨j, _, rfl, List.getElem?_eq_getElem hi, (Option.some.inj h').symm⟩)
      · rw [List.getElem?_append_right (by simpa using hi), List.getElem?_replicate] at h'
        split at h'
        · exact .inr (.inr (Option.some.inj h').symm)
        · cases h'
  refine Sta.start ⟨he, ?_, fun b e => ?_, tb, fun i d h => ?_, fun i bs h => ?_, fun i j bs cs p h => ?_, fun i h => ?_⟩
  · unfold L2.start argsQ
    have := r.length
    simp only [List.length_append, List.length_map, List.length_replicate, List.length_cons]
    omega
  · cases e
    exact ⟨n, dq⟩
  · rcases g0 h with ⟨_, h2⟩ | ⟨j, e, rfl, h1, h2⟩ | h1
    · cases h2
    · cases h2
      obtain ⟨v, hv, rv⟩ := r.get h1
      exact ⟨v, start_get (by simpa using hv), rv⟩
    · cases h1
  · rcases g0 h with ⟨_, h2⟩ | ⟨j, e, rfl, h1, h2⟩ | h1
    · cases h2
    · cases h2
    · cases h1
  · rcases g0 h with ⟨_, h2⟩ | ⟨j, e, rfl, h1, h2⟩ | h1
    · cases h2
    · cases h2
    · cases h1
  · rcases g0 h with ⟨h1, h2⟩ | ⟨j, e, _, _, h2⟩ | h1
    · subst h1
      cases h2
      exact ⟨a, rfl, start_get rfl⟩
    · cases h2
    · cases h1
theorem fn_Q {t : WX → TS} (F : FunD K x qual params body scope dvs kws f fd) (S : FnScope N ps scope) (hp : ∀ ds, pre ds → ds.length + 1 = ps.length)
    (der : ∀ (cdv : Value) (A : Around) (outer : List Env) (s : Shared) (H : Hp) (E : XK), Room k (A.deeper (envOfC qual scope s.heap.objs.size f cdv)) → PSs (cxOf (L2.CX P w) P w K mg base N qual scope f cdv A outer s H E) body (t (wDef E)))
    (h : ∀ (W : WX) ds, pre ds → Xs K W (t W) (argsQ N ds) (fnP post ds)) : FnOk P w K mg base (L2.CX P w) (k + 1) f fd ps (spQ K pre post) := by
  have hNl : ps.length ≤ N.length := by have := congrArg List.length S.pre; rw [List.length_take] at this; omega
  refine F.ok S (fun vs H Q E hsp => ?_) fun cdv A outer s H vs Q E hr hsp => ⟨t (wDef E), der cdv A outer s H E hr, ?_⟩
  · obtain ⟨G, a, ws, ds, rfl, _, _, _, _, r, p, _⟩ := hsp
    rw [List.length_cons, r.length]; exact hp ds p
  · obtain ⟨G, a, ws, ds, rfl, e, n, dq, tb, r, p, k1, k2⟩ := hsp
    have hl : ds.length + 1 ≤ N.length := by rw [hp ds p]; exact hNl
    exact h (wDef E) ds p (some a) G H G H (L2.start N (.ref a :: ws)) _ (sta_argsQ e n dq tb r hl) (fun σ' Δ' G' H' e' s' q => k1 .non .non G' H' s'.gr .non q) (fun v d G' H' g rv q => k1 v d G' H' g rv (q.rt fun _ _ z => z)) (fun _ _ _ _ _ _ z => False.elim z) (fun _ _ _ _ _ _ z => False.elim z) fun C σ' Δ' G' H' e' s' q => k2 C G' H' s'.gr q
end
end
end Ts


/-! Operators that the hand layer lacks: tuple * n for n up to 1; an instance without __eq__ and __ne__ of its own against a text. -/
namespace Ts
open PySem PySem.Spec PyProof.Rows L2
theorem tuple_mul1 (l : Addr) (items : Array Value) (n : Nat) (dd : Option Addr) (sl : Array (Option Value)) (u : Tok) :
    Meets (Builtin.«tuple.__mul__» ⟨[.ref l, .int 1 u], []⟩) (fun _ R s => s.heap.get? l = some { cls := .type "tuple", dict := dd, data := .seq items n, slots := sl } ∧ R (.ok (.ret (Value.ref l))) s) :=
  .of_wp fun prog w A R s h => by
    obtain ⟨hp, g, d, tk, os⟩ := s
    obtain ⟨hl, h⟩ := h
    have f1 := AutoSeq1.idx_int
    wp_walk using wpAny_loadPart' hl
    exact ⟨_, rfl, h⟩
theorem tuple_mul0 (l : Addr) (items : Array Value) (n : Nat) (dd : Option Addr) (sl : Array (Option Value)) (u : Tok) (hi : items.isEmpty = false) :
    Meets (Builtin.«tuple.__mul__» ⟨[.ref l, .int 0 u], []⟩) (fun _ R s => s.heap.get? l = some { cls := .type "tuple", dict := dd, data := .seq items n, slots := sl } ∧
      R (.ok (.ret (Value.ref s.heap.objs.size))) { s with heap := s.heap.push { cls := Value.type "tuple", data := Data.seq #[] }, toks := s.toks }) :=
  .of_wp fun prog w A R s h => by
    obtain ⟨hp, g, d, tk, os⟩ := s
    obtain ⟨hl, h⟩ := h
    have f1 := AutoSeq1.idx_int
    wp_walk using wpAny_loadPart' hl
    exact ⟨_, rfl, h⟩
section
variable {X : Cx}
/-- (x, ..) * 1, (x, ..) * 0 -/
def rRepT1 (K : PySem.W.Frag) : R2 := fun x y H Q => ∃ (l : Addr) (xs : List V), x = .ref l ∧ y = .int 1 ∧ SqT K H l xs ∧ Q (.ref l) H
def rRepT0 (K : PySem.W.Frag) : R2 := fun x y H Q => ∃ (l : Addr) (xs : List V), x = .ref l ∧ y = .int 0 ∧ SqT K H l xs ∧ xs ≠ [] ∧ ∀ p, H p = none → Q (.ref p) (upd H p (.tup []))
theorem op_repT1 : OpR X (binaryOp .Mult) (rRepT1 X.K) := by
  intro pins s σ H x y v u Q I rx ry h
  obtain ⟨l, xs, rfl, rfl, hT, q⟩ := h
  cases rx
  obtain ⟨t, rfl⟩ := ry
  obtain ⟨its, r, ⟨⟨cls, dd, data, sl⟩, ho, hc, n, hd⟩, hs⟩ := I.tuple hT
  simp only at hc hd
  subst hc hd
  exact wpAny_binaryOp_repeat_ref (T := "tuple") (U := "int") (by decide) ⟨_, ho, rfl⟩ (fun s' => typeIs_int s' 1 t) noFill_tuple_mul F.fills_int_mul F.slot_int_rmul repeat_tuple F.slot_int_index.lookup
    (call_meets F.slot_int_rmul (typeIs_int s 1 t) F.entry_int_rmul (F.args_int_rmul_2 _ _) (int_rmul_tuple 1 t l its.toArray n dd sl)
      ⟨ho, rfl, ⟨_, ho, rfl⟩, call_meets F.slot_tuple_mul ⟨_, ho, rfl⟩ F.entry_tuple_mul (F.args_tuple_mul_2 _ _) (tuple_mul1 l its.toArray n dd sl t) ⟨ho, ⟨.ref l, H, I, rfl, q⟩⟩⟩)
theorem op_repT0 : OpR X (binaryOp .Mult) (rRepT0 X.K) := by
  intro pins s σ H x y v u Q I rx ry h
  obtain ⟨l, xs, rfl, rfl, hT, hne, q⟩ := h
  cases rx
  obtain ⟨t, rfl⟩ := ry
  obtain ⟨its, r, ⟨⟨cls, dd, data, sl⟩, ho, hc, n, hd⟩, hs⟩ := I.tuple hT
  simp only at hc hd
  subst hc hd
  have hi : its.toArray.isEmpty = false := by
    cases its with
    | nil =>
      cases r
      exact absurd rfl hne
    | cons a b => rfl
  refine wpAny_binaryOp_repeat_ref (T := "tuple") (U := "int") (by decide) ⟨_, ho, rfl⟩ (fun s' => typeIs_int s' 0 t) noFill_tuple_mul F.fills_int_mul F.slot_int_rmul repeat_tuple F.slot_int_index.lookup
    (call_meets F.slot_int_rmul (typeIs_int s 0 t) F.entry_int_rmul (F.args_int_rmul_2 _ _) (int_rmul_tuple 0 t l its.toArray n dd sl)
      ⟨ho, rfl, ⟨_, ho, rfl⟩, call_meets F.slot_tuple_mul ⟨_, ho, rfl⟩ F.entry_tuple_mul (F.args_tuple_mul_2 _ _) (tuple_mul0 l its.toArray n dd sl t hi) ⟨ho, ?_⟩⟩)
  refine ⟨.ref s.heap.objs.size, _, I.laid (t' := s.toks) (o := .tup []) (fun b ob q => Heap.get?_push_of_some _ q) (Nat.le_refl _) ?_, rfl, q _ (I.hok.fresh (Nat.le_refl _))⟩
  exact ⟨Nat.zero_le _, [], .nil, IsTup.new _ _⟩
end
end Ts
namespace Ts
open PySem PySem.Spec PyProof.Rows PySem.SeqAt
section
variable {M : Model} {prog : Program} {w : World} {A : Around} {E : Value → Shared → Prop} {s : Shared} {K : PySem.W.Frag} {x C dx : Addr} {od : Option Obj} {z : Str} {t : Tok}
theorem oe_isSame {R : Bool → Shared → Prop} (h : R false s) : wpAny M A (isSame (.ref x) (.str z t)) R E s := wpAny_of_eq (rfl : isSame (.ref x) (.str z t) = pure false) h
theorem oe_entry {Q : Fin → Shared → Prop} (hq : Q (.done (.ret .notImplemented)) s) : wpAny M A (Builtin.«object.__eq__» ⟨[.ref x, .str z t], []⟩) Q E s := by
  unfold Builtin.«object.__eq__»
  repeat (first | with_reducible refine oe_isSame ?_ | wp_step)
  exact hq
theorem oe_call {ox : Obj} {Q : Value → Shared → Prop} (X : K.In s.heap) (I : PySem.W.InstAt s.heap x ox C od) (hm : PySem.W.mroIn K C (.type "object") = some true) (hq : Q .notImplemented s) :
    wpAny (model prog w) A (call (.builtin "object.__eq__") [.ref x, .str z t]) Q E s :=
  wpAny_call (codeAny_call_builtin F.cmp_object.eq.plain F.cmpEntry_eq (PySem.W.check_slot F.cmpKind_eq F.cmpSplit_eq (I.type.andThen (PySem.W.looks_mroIn X hm)) (F.cmpArgs_eq _ _) (oe_entry hq)))
theorem on_bound {ox : Obj} {args : List Value} {Q : Option Value → Shared → Prop} (X : K.In s.heap) (I : PySem.W.InstAt s.heap x ox C od) (hs : PySem.W.findIn K (.ref C) "__ne__" = some (some (.builtin "object.__ne__")))
    (h : wpAny M A (call (.builtin "object.__ne__") (.ref x :: args)) (fun v => Q (some v)) E s) : wpAny M A (callSpecialIfBound? (.ref x) "__ne__" args) Q E s := by
  simp only [callSpecialIfBound?, bindSpecialIfBound?]
  refine wpAny_holding (wpAny_bind (wpAny_bind (wpAny_bind (I.type.here ((PySem.W.looks_findIn X hs).here ?_)))))
  refine wpAny_bind (wpAny_askSetting (wpAny_ite ?_))
  have fin : wpAny M A (call (.builtin "object.__ne__") ([.ref x] ++ args) >>= fun v => pure (some v)) Q E s := wpAny_bind (wpAny_mono h (fun v s' h' => wpAny_pure h') fun _ _ h' => h')
  split
  · exact wpAny_bind (wpAny_of_eq (F.cmp_object.ne.bind _) (wpAny_pure (by exact fin)))
  · exact wpAny_tryCatch (wpAny_bind (wpAny_of_eq (F.cmp_object.ne.bind _) (wpAny_pure (by exact fin))))
theorem on_entry {ox : Obj} {Q : Fin → Shared → Prop} (X : K.In s.heap) (I : PySem.W.InstAt s.heap x ox C od) (hm : PySem.W.mroIn K C (.type "object") = some true) (hs : PySem.W.findIn K (.ref C) "__eq__" = some (some (.builtin "object.__eq__"))) (hu : A.units < cLine)
    (hq : Q (.done (.ret .notImplemented)) s) : wpAny (model prog w) A (Builtin.«object.__ne__» ⟨[.ref x, .str z t], []⟩) Q E s := by
  unfold Builtin.«object.__ne__»
  repeat (first | with_reducible refine wpAny_cRoomFor hu ?_ | with_reducible refine HN.ifBound_objEq X I hs (oe_call X I hm ?_) | wp_step)
  exact hq
theorem on_call {ox : Obj} {Q : Value → Shared → Prop} (X : K.In s.heap) (I : PySem.W.InstAt s.heap x ox C od) (hm : PySem.W.mroIn K C (.type "object") = some true) (hs : PySem.W.findIn K (.ref C) "__eq__" = some (some (.builtin "object.__eq__"))) (hu : A.units + 1 < cLine) (hq : Q .notImplemented s) :
    wpAny (model prog w) A (call (.builtin "object.__ne__") [.ref x, .str z t]) Q E s :=
  wpAny_call (codeAny_call_builtin F.cmp_object.ne.plain F.cmpEntry_ne (PySem.W.check_slot F.cmpKind_ne F.cmpSplit_ne (I.type.andThen (PySem.W.looks_mroIn X hm)) (F.cmpArgs_ne _ _) (on_entry (A := A.in1) X I hm hs hu hq)))
theorem str_ne_ins (b : Str) (u : Tok) : Meets (Builtin.«str.__ne__» ⟨[.str b u, .ref x], []⟩) (fun _ R s => s.heap.get? x = some (PySem.W.instObj C dx) ∧ R (.ok (.ret .notImplemented)) s) :=
  .of_wp fun prog w A R s h => by obtain ⟨hp, g, d, tk, os⟩ := s; obtain ⟨hl, h⟩ := h; wp_walk using wpAny_loadPart' hl, wpAny_load hl; exact ⟨_, rfl, h⟩
theorem str_eq_ins (b : Str) (u : Tok) : Meets (Builtin.«str.__eq__» ⟨[.str b u, .ref x], []⟩) (fun _ R s => s.heap.get? x = some (PySem.W.instObj C dx) ∧ R (.ok (.ret .notImplemented)) s) :=
  .of_wp fun prog w A R s h => by obtain ⟨hp, g, d, tk, os⟩ := s; obtain ⟨hl, h⟩ := h; wp_walk using wpAny_loadPart' hl, wpAny_load hl; exact ⟨_, rfl, h⟩
theorem sub_strC : PySem.W.subIn K (.type "str") (.ref C) = some false := by
  have e : fastBuiltinMro "str" = some [.type "str", .type "object"] := by decide +kernel
  show (fastBuiltinMro "str").map (·.contains (.ref C)) = some false
  rw [e]
  first
    | rfl
    | simp
theorem ne_ins_str {Q : Value → Shared → Prop} (hu : A.units + 1 < cLine) (X : K.In s.heap) (I : PySem.W.InstAt s.heap x (PySem.W.instObj C dx) C od) (hx : s.heap.get? x = some (PySem.W.instObj C dx)) (hm : PySem.W.mroIn K C (.type "object") = some true)
    (hs : PySem.W.findIn K (.ref C) "__eq__" = some (some (.builtin "object.__eq__"))) (hs2 : PySem.W.findIn K (.ref C) "__ne__" = some (some (.builtin "object.__ne__"))) (h : Q (.bool true) s) :
    wpAny (model prog w) A (richCompare .NotEq (.ref x) (.str z t)) Q E s := by
  have one : wpAny (model prog w) A (tryCompare (.ref x) "__ne__" (.str z t)) (fun r s' => r = none ∧ s' = s) E s := by
    unfold tryCompare
    exact wpAny_bind (on_bound X I hs2 (on_call X I hm hs hu (wpAny_pure ⟨rfl, rfl⟩)))
  have two : wpAny (model prog w) A (tryCompare (.str z t) "__ne__" (.ref x)) (fun r s' => r = none ∧ s' = s) E s :=
    wpAny_tryCompare_declines (typeIs_str s z t) F.slot_str_ne_refl (call_meets F.slot_str_ne_refl (typeIs_str s z t) F.entry_str_ne (F.args_str_ne_2 _ _) (str_ne_ins (x := x) (C := C) (dx := dx) z t) ⟨hx, rfl, rfl, rfl⟩)
  simp only [richCompare, cmpInfo_NotEq, oneThing_ref]
  refine wpAny_holding (wpAny_bind (wpAny_cRoomFor (Nat.lt_of_succ_lt hu) ?_))
  refine wpAny_bind (I.type.here ?_)
  refine wpAny_bind (wpAny_typeOf (typeIs_str s z t) ?_)
  split
  · refine wpAny_bind ((PySem.W.looks_subIn X sub_strC).here ?_)
    simp only [Bool.false_eq_true, if_false, Bool.not_false, if_true]
    refine wpAny_bind (m := tryCompare (.ref x) _ (.str z t)) (wpAny_mono one (fun r s1 z => ?_) fun _ _ e => e)
    obtain ⟨z1, z2⟩ := z
    subst z1
    subst z2
    refine wpAny_bind (m := tryCompare (.str _ t) _ (.ref x)) (wpAny_mono two (fun r s2 z => ?_) fun _ _ e => e)
    obtain ⟨z1, z2⟩ := z
    subst z1
    subst z2
    exact wpAny_bind (wpAny_rule (wpAny_bind (wpAny_of_eq (rfl : isSame (.ref x) (.str _ t) = pure false) (wpAny_pure h))))
  · rename_i q
    exact absurd (by simp) q
theorem eq_ins_str {Q : Value → Shared → Prop} (hu : A.units < cLine) (X : K.In s.heap) (I : PySem.W.InstAt s.heap x (PySem.W.instObj C dx) C od) (hx : s.heap.get? x = some (PySem.W.instObj C dx)) (hm : PySem.W.mroIn K C (.type "object") = some true)
    (hs : PySem.W.findIn K (.ref C) "__eq__" = some (some (.builtin "object.__eq__"))) (h : Q (.bool false) s) :
    wpAny (model prog w) A (richCompare .Eq (.ref x) (.str z t)) Q E s := by
  have one : wpAny (model prog w) A (tryCompare (.ref x) "__eq__" (.str z t)) (fun r s' => r = none ∧ s' = s) E s := by
    unfold tryCompare
    exact wpAny_bind (HN.ifBound_objEq X I hs (oe_call X I hm (wpAny_pure ⟨rfl, rfl⟩)))
  have two : wpAny (model prog w) A (tryCompare (.str z t) "__eq__" (.ref x)) (fun r s' => r = none ∧ s' = s) E s :=
    wpAny_tryCompare_declines (typeIs_str s z t) F.slot_str_eq_refl (call_meets F.slot_str_eq_refl (typeIs_str s z t) F.entry_str_eq (F.args_str_eq_2 _ _) (str_eq_ins (x := x) (C := C) (dx := dx) z t) ⟨hx, rfl, rfl, rfl⟩)
  simp only [richCompare, cmpInfo_Eq, oneThing_ref]
  refine wpAny_holding (wpAny_bind (wpAny_cRoomFor hu ?_))
  refine wpAny_bind (I.type.here ?_)
  refine wpAny_bind (wpAny_typeOf (typeIs_str s z t) ?_)
  split
  · refine wpAny_bind ((PySem.W.looks_subIn X sub_strC).here ?_)
    simp only [Bool.false_eq_true, if_false, Bool.not_false, if_true]
    refine wpAny_bind (m := tryCompare (.ref x) _ (.str z t)) (wpAny_mono one (fun r s1 z => ?_) fun _ _ e => e)
    obtain ⟨z1, z2⟩ := z
    subst z1
    subst z2
    refine wpAny_bind (m := tryCompare (.str _ t) _ (.ref x)) (wpAny_mono two (fun r s2 z => ?_) fun _ _ e => e)
    obtain ⟨z1, z2⟩ := z
    subst z1
    subst z2
    exact wpAny_bind (wpAny_rule (wpAny_bind (wpAny_of_eq (rfl : isSame (.ref x) (.str _ t) = pure false) (wpAny_pure h))))
  · rename_i q
    exact absurd (by simp) q
end
open L2
section
variable {X : Cx}
/-- a class that takes == and != from object -/
structure PlainEq (K : PySem.W.Frag) (C : Addr) : Prop where
  mro : PySem.W.mroIn K C (.type "object") = some true
  eq : PySem.W.findIn K (.ref C) "__eq__" = some (some (.builtin "object.__eq__"))
  ne : PySem.W.findIn K (.ref C) "__ne__" = some (some (.builtin "object.__ne__"))
def rOS (K : PySem.W.Frag) (b : Bool) : R2 := fun x y H Q => ∃ (a C dx : Addr) (fs : List (Str × V)) (z : Str), x = .ref a ∧ y = .str z ∧ H a = some (.ins C dx fs) ∧ PlainEq K C ∧ Q (.bl b) H
theorem op_neOS (hu : X.A.units + 64 < cLine) : OpR X (compareOp .NotEq) (rOS X.K true) := by
  intro pins s σ H x y v u Q I rx ry h
  obtain ⟨a, C, dx, fs, z, rfl, rfl, ha, pe, q⟩ := h
  cases rx
  obtain ⟨t, rfl⟩ := ry
  obtain ⟨mA, O, _⟩ := ins_get I.hok ha
  obtain ⟨od, J, _⟩ := O.look
  exact ne_ins_str (by omega) I.kIn J O.obj pe.mro pe.eq pe.ne ⟨.bl true, H, I, rfl, q⟩
theorem op_eqOS (hu : X.A.units + 64 < cLine) : OpR X (compareOp .Eq) (rOS X.K false) := by
  intro pins s σ H x y v u Q I rx ry h
  obtain ⟨a, C, dx, fs, z, rfl, rfl, ha, pe, q⟩ := h
  cases rx
  obtain ⟨t, rfl⟩ := ry
  obtain ⟨mA, O, _⟩ := ins_get I.hok ha
  obtain ⟨od, J, _⟩ := O.look
  exact eq_ins_str (by omega) I.kIn J O.obj pe.mro pe.eq ⟨.bl false, H, I, rfl, q⟩
end
end Ts


namespace Ts
variable [Tt]
open PySem PySem.Spec PyProof.Rows L2

/-! ### one rule for each operator, whatever its values -/
section
variable {X : Cx}
theorem OpR.or {f : Value → Value → Sem Value} {r r' : R2} (h : OpR X f r) (h' : OpR X f r') : OpR X f (fun x y H Q => r x y H Q ∨ r' x y H Q) := by
  intro pins s σ H x y v u Q I rx ry q
  rcases q with q | q
  · exact h pins s σ H x y v u Q I rx ry q
  · exact h' pins s σ H x y v u Q I rx ry q
theorem CallR.or {f : Value} {r r' : List V → Hp → VK → Prop} (h : CallR X f r) (h' : CallR X f r') : CallR X f (fun xs H Q => r xs H Q ∨ r' xs H Q) := by
  intro pins s σ H xs us Q I rx q
  rcases q with q | q
  · exact h pins s σ H xs us Q I rx q
  · exact h' pins s σ H xs us Q I rx q
theorem SlR.or {r r' : V → Option Int → Option Int → Hp → VK → Prop} (h : SlR X r) (h' : SlR X r') : SlR X (fun x lo hi H Q => r x lo hi H Q ∨ r' x lo hi H Q) := by
  intro pins s σ H x v vl vu lo hi sl Q I rx hs pl pu q
  rcases q with q | q
  · exact h pins s σ H x v vl vu lo hi sl Q I rx hs pl pu q
  · exact h' pins s σ H x v vl vu lo hi sl Q I rx hs pl pu q
theorem PIp.or {op : Operator} {r r' : TIp} (h : PIp X op r) (h' : PIp X op r') : PIp X op (fun x y H Q => r x y H Q ∨ r' x y H Q) := by
  intro pins s σ H x y v u Q I rx ry q
  rcases q with q | q
  · exact h pins s σ H x y v u Q I rx ry q
  · exact h' pins s σ H x y v u Q I rx ry q
theorem pi_or {tg e : Expr} {w w' : TI} (h : PI X tg e w) (h' : PI X tg e w') : PI X tg e (fun σ H R => w σ H R ∨ w' σ H R) := by
  refine ⟨fun pins s σ H R I q => ?_⟩
  rcases q with q | q
  · exact h.run pins s σ H R I q
  · exact h'.run pins s σ H R I q
end
def rAddS : R2 := fun x y H Q => ∃ i j, x = .str i ∧ y = .str j ∧ i.length + j.length ≤ sizeLine ∧ Q (.str (i ++ j)) H
def rAddG (K : PySem.W.Frag) : R2 := fun x y H Q => rI0 (fun i j => .int (i + j)) x y H Q ∨ (rAddS x y H Q ∨ (rCatA K x y H Q ∨ rCat x y H Q))
def rSubG : R2 := rI0 fun i j => .int (i - j)
def rMulG (K : PySem.W.Frag) : R2 := fun x y H Q => rI CMul (fun i j => .int (i * j)) x y H Q ∨ (rI CMulW (fun i j => .int (i * j)) x y H Q ∨ (rRep x y H Q ∨ (rRepT K x y H Q ∨ (rRepT1 K x y H Q ∨ rRepT0 K x y H Q))))
def rDivG : R2 := rI CDivW fun i j => .int (i / j)
def rModG : R2 := rI (fun _ j => 0 < j) fun i j => .int (i % j)
def rPowG : R2 := rI CPow fun i j => .int (i ^ j.toNat)
def rEqG (K : PySem.W.Frag) : R2 := fun x y H Q => rEq x y H Q ∨ (rEqD K x y H Q ∨ rOS K false x y H Q)
def rNeG (K : PySem.W.Frag) : R2 := fun x y H Q => rNe x y H Q ∨ (rNeD K x y H Q ∨ rOS K true x y H Q)
def rLtS : R2 := fun x y H Q => ∃ i j, x = .str i ∧ y = .str j ∧ Q (.bl (decide (i.cps.toList < j.cps.toList))) H
def rLtG (K : PySem.W.Frag) : R2 := fun x y H Q => rI0 (fun i j => .bl (decide (i < j))) x y H Q ∨ (rLtS x y H Q ∨ rLtT K x y H Q)
def rLeG : R2 := rI0 fun i j => .bl (decide (i ≤ j))
def rGtG : R2 := rI0 fun i j => .bl (decide (j < i))
def rGeG : R2 := rI0 fun i j => .bl (decide (j ≤ i))
def rInS (neg : Bool) : R2 := fun x y H Q => ∃ i j, x = .str i ∧ y = .str j ∧ Q (.bl (if neg then !(!(Builtin.Str.occurrences j i 0 j.length 1).isEmpty) else !(Builtin.Str.occurrences j i 0 j.length 1).isEmpty)) H
def rInG (K : PySem.W.Frag) (neg : Bool) : R2 := fun x y H Q => rIn K neg x y H Q ∨ rInS neg x y H Q
def rIsN : R2 := fun x y H Q => y = .non ∧ Q (.bl (decide (x = .non))) H
def rNotN : R2 := fun x y H Q => y = .non ∧ Q (.bl (!decide (x = .non))) H
def rSlG (K : PySem.W.Frag) : V → Option Int → Option Int → Hp → VK → Prop := fun x lo hi H Q => rSlL K x lo hi H Q ∨ (rSlA K x lo hi H Q ∨ rSlS x lo hi H Q)
def rInt1 : List V → Hp → VK → Prop := fun xs H Q => (∃ i, xs = [.int i] ∧ Q (.int i) H) ∨ ∃ k, xs = [.bl k] ∧ Q (.int (if k then 1 else 0)) H
def rAbs : List V → Hp → VK → Prop := fun xs H Q => ∃ i, xs = [.int i] ∧ Q (.int (if i < 0 then -i else i)) H
def rTupO (K : PySem.W.Frag) : List V → Hp → VK → Prop := fun xs H Q => ∃ p ys, xs = [.ref p] ∧ ((SqL K H p ys ∧ ∀ l, H l = none → Q (.ref l) (upd H l (.tup ys))) ∨ (SqT K H p ys ∧ Q (.ref p) H))
def rLstO (K : PySem.W.Frag) : List V → Hp → VK → Prop := fun xs H Q => ∃ p ys, xs = [.ref p] ∧ (SqL K H p ys ∨ SqT K H p ys) ∧ ∀ l, H l = none → Q (.ref l) (upd H l (.lst ys))
def rMin2 : List V → Hp → VK → Prop := fun xs H Q => ∃ i j, xs = [.int i, .int j] ∧ Q (.int (if j < i then j else i)) H
def rMax2 : List V → Hp → VK → Prop := fun xs H Q => ∃ i j, xs = [.int i, .int j] ∧ Q (.int (if j > i then j else i)) H
def rIns : V → List V → Hp → VK → Prop := fun x vs H Q => ∃ (l : Addr) (xs : List V) (i : Int) (y : V), x = .ref l ∧ vs = [.int i, y] ∧ H l = some (.lst xs) ∧ xs.length < sizeLine ∧ 0 ≤ i ∧ i < 2 ^ 63 ∧
  Q .non (upd H l (.lst (xs.take i.toNat ++ [y] ++ xs.drop i.toNat)))
section
variable {X : Cx}
theorem op_addG : OpR X (binaryOp .Add) (rAddG X.K) := OpR.or op_add (OpR.or op_add_str (OpR.or op_catA op_cat))
theorem op_subG : OpR X (binaryOp .Sub) rSubG := op_sub
theorem op_mulG : OpR X (binaryOp .Mult) (rMulG X.K) := OpR.or op_mul (OpR.or op_mulW (OpR.or op_rep (OpR.or op_repT (OpR.or op_repT1 op_repT0))))
theorem op_divG : OpR X (binaryOp .FloorDiv) rDivG := op_fdivW
theorem op_modG : OpR X (binaryOp .Mod) rModG := op_mod
theorem op_powG : OpR X (binaryOp .Pow) rPowG := op_pow
theorem op_eqG (hu : X.A.units + 64 < cLine) : OpR X (compareOp .Eq) (rEqG X.K) := OpR.or op_eq (OpR.or (op_eqD hu) (op_eqOS hu))
theorem op_neG (hu : X.A.units + 64 < cLine) : OpR X (compareOp .NotEq) (rNeG X.K) := OpR.or op_ne (OpR.or (op_neD hu) (op_neOS hu))
theorem op_ltG (hu : X.A.units < cLine) : OpR X (compareOp .Lt) (rLtG X.K) := OpR.or op_lt (OpR.or op_lt_str (op_ltT hu))
theorem op_leG : OpR X (compareOp .LtE) rLeG := op_le
theorem op_gtG : OpR X (compareOp .Gt) rGtG := op_gt
theorem op_geG : OpR X (compareOp .GtE) rGeG := op_ge
theorem op_inG : OpR X (compareOp .In) (rInG X.K false) := OpR.or op_in_seq op_in_str
theorem op_notInG : OpR X (compareOp .NotIn) (rInG X.K true) := OpR.or op_notIn_seq op_notIn_str
theorem op_isNG : OpR X (compareOp .Is) rIsN := op_isN
theorem op_notNG : OpR X (compareOp .IsNot) rNotN := op_notN
theorem sl_G : SlR X (rSlG X.K) := SlR.or sl_list (SlR.or sl_tupA sl_str)
theorem call_lenG : CallR X (.builtin "len") (rLenC X.K) := call_len
theorem call_intG : CallR X (.type "int") rInt1 := call_int1
theorem call_absG : CallR X (.builtin "abs") rAbs := call_abs
theorem call_tupG : CallR X (.type "tuple") (rTupO X.K) := call_tuple_of
theorem call_lstG : CallR X (.type "list") (rLstO X.K) := call_list_of
theorem call_minG (hc : X.calm = true) : CallR X (.builtin "min") rMin2 := call_min2 hc
theorem call_maxG (hc : X.calm = true) : CallR X (.builtin "max") rMax2 := call_max2 hc
end
/-- a walk over a list, a tuple, a text -/
def iSeq (K : PySem.W.Frag) (te : TE) : TI := fun σ H R => iList K te σ H R ∨ (iTup K te σ H R ∨ iStr te σ H R)
theorem pi_seq {X : Cx} {tg e : Expr} {te : TE} (h : PE X e te) : PI X tg e (iSeq X.K te) := pi_or (pi_list h) (pi_or (pi_tup h) (pi_str h))

/-! ### the operations over data -/
section
variable {K : PySem.W.Frag}
theorem ret1 {G H : Hp} {v : V} {d : D} {Q : VK} (e : Exx G H) (r : Rp K G v d) (k : ∀ (u : V) (d' : D) (G' H' : Hp), Gr none G H G' H' → Rp K G' u d' → d' = d → Q u H') : Q v H := k v d G H (Gr.refl e) r rfl
theorem od_int {g : Int → Int → V} {h : Int → Int → D} {i j : Int} (hg : ∀ G, Rp K G (g i j) (h i j)) : OpD K (rI0 g) (.int i) (.int j) (· = h i j) := fun G H v w Q e r1 r2 k => by
  cases r1; cases r2
  exact ⟨i, j, rfl, rfl, ret1 e (hg G) k⟩
theorem od_intC {C : Int → Int → Prop} {g : Int → Int → V} {h : Int → Int → D} {i j : Int} (hc : C i j) (hg : ∀ G, Rp K G (g i j) (h i j)) : OpD K (rI C g) (.int i) (.int j) (· = h i j) := fun G H v w Q e r1 r2 k => by
  cases r1; cases r2
  exact ⟨i, j, rfl, rfl, hc, ret1 e (hg G) k⟩
theorem od_inl {r r' : R2} {x y : D} {R : D → Prop} (h : OpD K r x y R) : OpD K (fun x y H Q => r x y H Q ∨ r' x y H Q) x y R := fun G H v w Q e r1 r2 k => .inl (h G H v w Q e r1 r2 k)
theorem od_inr {r r' : R2} {x y : D} {R : D → Prop} (h : OpD K r' x y R) : OpD K (fun x y H Q => r x y H Q ∨ r' x y H Q) x y R := fun G H v w Q e r1 r2 k => .inr (h G H v w Q e r1 r2 k)
theorem od_add {i j : Int} : OpD K (rAddG K) (.int i) (.int j) (· = .int (i + j)) := od_inl (od_int (g := fun i j => .int (i + j)) (h := fun i j => .int (i + j)) fun G => .int _)
theorem od_sub {i j : Int} : OpD K rSubG (.int i) (.int j) (· = .int (i - j)) := od_int (g := fun i j => .int (i - j)) (h := fun i j => .int (i - j)) fun G => .int _
theorem od_mul {i j : Int} (h : CMul i j) : OpD K (rMulG K) (.int i) (.int j) (· = .int (i * j)) := od_inl (od_intC (g := fun i j => .int (i * j)) (h := fun i j => .int (i * j)) h fun G => .int _)
theorem od_mulW {i j : Int} (h : CMulW i j) : OpD K (rMulG K) (.int i) (.int j) (· = .int (i * j)) := od_inr (od_inl (od_intC (g := fun i j => .int (i * j)) (h := fun i j => .int (i * j)) h fun G => .int _))
theorem od_div {i j : Int} (h : CDivW i j) : OpD K rDivG (.int i) (.int j) (· = .int (i / j)) := od_intC (g := fun i j => .int (i / j)) (h := fun i j => .int (i / j)) h fun G => .int _
theorem od_mod {i j : Int} (h : 0 < j) : OpD K rModG (.int i) (.int j) (· = .int (i % j)) := od_intC (g := fun i j => .int (i % j)) (h := fun i j => .int (i % j)) h fun G => .int _
theorem od_pow {i j : Int} (h : CPow i j) : OpD K rPowG (.int i) (.int j) (· = .int (i ^ j.toNat)) := od_intC (g := fun i j => .int (i ^ j.toNat)) (h := fun i j => .int (i ^ j.toNat)) h fun G => .int _
theorem od_lt {i j : Int} : OpD K (rLtG K) (.int i) (.int j) (· = .bl (decide (i < j))) := od_inl (od_int (g := fun i j => .bl (decide (i < j))) (h := fun i j => .bl (decide (i < j))) fun G => .bl _)
theorem od_le {i j : Int} : OpD K rLeG (.int i) (.int j) (· = .bl (decide (i ≤ j))) := od_int (g := fun i j => .bl (decide (i ≤ j))) (h := fun i j => .bl (decide (i ≤ j))) fun G => .bl _
theorem od_gt {i j : Int} : OpD K rGtG (.int i) (.int j) (· = .bl (decide (j < i))) := od_int (g := fun i j => .bl (decide (j < i))) (h := fun i j => .bl (decide (j < i))) fun G => .bl _
theorem od_ge {i j : Int} : OpD K rGeG (.int i) (.int j) (· = .bl (decide (j ≤ i))) := od_int (g := fun i j => .bl (decide (j ≤ i))) (h := fun i j => .bl (decide (j ≤ i))) fun G => .bl _
/-- scalars, as values -/
def D.v : D → Option V
  | .non => some .non
  | .bl b => some (.bl b)
  | .int i => some (.int i)
  | .str x => some (.str x)
  | _ => none
theorem Rp.sc {G : Hp} {v w : V} {d : D} (r : Rp K G v d) (h : d.v = some w) : v = w := by
  cases r <;> cases h <;> rfl
theorem od_eqS {x y : D} {v w : V} (hx : x.v = some v) (hy : y.v = some w) (hs : scal v w = true) : OpD K (rEqG K) x y (· = .bl (decide (v = w))) := fun G H v' w' Q e r1 r2 k => by
  rw [r1.sc hx, r2.sc hy]
  exact .inl ⟨hs, ret1 e (.bl _) k⟩
theorem od_neS {x y : D} {v w : V} (hx : x.v = some v) (hy : y.v = some w) (hs : scal v w = true) : OpD K (rNeG K) x y (· = .bl (!decide (v = w))) := fun G H v' w' Q e r1 r2 k => by
  rw [r1.sc hx, r2.sc hy]
  exact .inl ⟨hs, ret1 e (.bl _) k⟩
theorem od_eqI {i j : Int} : OpD K (rEqG K) (.int i) (.int j) (· = .bl (decide (i = j))) := by
  have h : OpD K (rEqG K) (.int i) (.int j) (· = .bl (decide (V.int i = V.int j))) := od_eqS rfl rfl rfl
  have e : decide (V.int i = V.int j) = decide (i = j) := by rw [Bool.eq_iff_iff]; simp
  rw [e] at h
  exact h
theorem od_neI {i j : Int} : OpD K (rNeG K) (.int i) (.int j) (· = .bl (!decide (i = j))) := by
  have h : OpD K (rNeG K) (.int i) (.int j) (· = .bl (!decide (V.int i = V.int j))) := od_neS rfl rfl rfl
  have e : decide (V.int i = V.int j) = decide (i = j) := by rw [Bool.eq_iff_iff]; simp
  rw [e] at h
  exact h
theorem od_eqB {i j : Bool} : OpD K (rEqG K) (.bl i) (.bl j) (· = .bl (i == j)) := by
  have h : OpD K (rEqG K) (.bl i) (.bl j) (· = .bl (decide (V.bl i = V.bl j))) := od_eqS rfl rfl rfl
  rw [dec_bl] at h
  exact h
theorem od_neB {i j : Bool} : OpD K (rNeG K) (.bl i) (.bl j) (· = .bl (i != j)) := by
  have h : OpD K (rNeG K) (.bl i) (.bl j) (· = .bl (!decide (V.bl i = V.bl j))) := od_neS rfl rfl rfl
  rw [dec_bl] at h
  exact h
theorem od_eqX {i j : Str} : OpD K (rEqG K) (.str i) (.str j) (· = .bl (decide (i = j))) := by
  have h : OpD K (rEqG K) (.str i) (.str j) (· = .bl (decide (V.str i = V.str j))) := od_eqS rfl rfl rfl
  have e : decide (V.str i = V.str j) = decide (i = j) := by rw [Bool.eq_iff_iff]; simp
  rw [e] at h
  exact h
theorem od_neX {i j : Str} : OpD K (rNeG K) (.str i) (.str j) (· = .bl (!decide (i = j))) := by
  have h : OpD K (rNeG K) (.str i) (.str j) (· = .bl (!decide (V.str i = V.str j))) := od_neS rfl rfl rfl
  have e : decide (V.str i = V.str j) = decide (i = j) := by rw [Bool.eq_iff_iff]; simp
  rw [e] at h
  exact h
/-! deep == -/
mutual
def D.py : D → PyData
  | .non => .none
  | .bl b => .bool b
  | .int i => .int i
  | .str x => .str x
  | .lst xs => .list (D.pys xs)
  | .tup xs => .tuple (D.pys xs)
  | .obj _ _ => .none
def D.pys : List D → List PyData
  | [] => []
  | d :: ds => d.py :: D.pys ds
end
mutual
/-- no instance within -/
def D.pure : D → Bool
  | .lst xs => D.pures xs
  | .tup xs => D.pures xs
  | .obj _ _ => false
  | _ => true
def D.pures : List D → Bool
  | [] => true
  | d :: ds => d.pure && D.pures ds
end
mutual
theorem Rp.dp {G H : Hp} (e : Exx G H) : ∀ {v : V} {d : D}, Rp K G v d → d.pure = true → Dp K H v d.py
  | _, _, .non, _ => .non
  | _, _, .bl b, _ => .bl b
  | _, _, .int i, _ => .int i
  | _, _, .str x, _ => .str x
  | _, _, .lst h r, p => .lst (.inl (.inl (e.l h))) (RpL.dp e r p)
  | _, _, .tup h r, p => .tup (st_ex e h) (RpL.dp e r p)
  | _, _, .obj h r, p => nomatch p
theorem RpL.dp {G H : Hp} (e : Exx G H) : ∀ {vs : List V} {ds : List D}, RpL K G vs ds → D.pures ds = true → DpAll K H vs (D.pys ds)
  | _, _, .nil, _ => .nil
  | _, _, .cons h r, p => by
    have p' := Bool.and_eq_true_iff.mp p
    exact .cons (Rp.dp e h p'.1) (RpL.dp e r p'.2)
end
/-- what == can look at -/
def D.ok (d : D) : Bool := d.pure && SeqAt.shaped d.py
theorem od_eqD {x y : D} (hx : x.ok = true) (hy : y.ok = true) : OpD K (rEqG K) x y (· = .bl (PyData.eqv x.py y.py)) := fun G H v w Q e r1 r2 k => by
  obtain ⟨a1, a2⟩ := Bool.and_eq_true_iff.mp hx
  obtain ⟨b1, b2⟩ := Bool.and_eq_true_iff.mp hy
  exact .inr (.inl ⟨_, _, r1.dp e a1, r2.dp e b1, a2, b2, ret1 e (.bl _) k⟩)
theorem od_neD {x y : D} (hx : x.ok = true) (hy : y.ok = true) : OpD K (rNeG K) x y (· = .bl (!PyData.eqv x.py y.py)) := fun G H v w Q e r1 r2 k => by
  obtain ⟨a1, a2⟩ := Bool.and_eq_true_iff.mp hx
  obtain ⟨b1, b2⟩ := Bool.and_eq_true_iff.mp hy
  exact .inr (.inl ⟨_, _, r1.dp e a1, r2.dp e b1, a2, b2, ret1 e (.bl _) k⟩)
theorem D.eqv_self {d : D} (h : d.ok = true) : PyData.eqv d.py d.py = true := SeqAt.eqv_refl d.py (SeqAt.canLay_of_shaped (Bool.and_eq_true_iff.mp h).2)
theorem od_neSelf {x y : D} (hx : x.ok = true) (e : x = y) : OpD K (rNeG K) x y (· = .bl false) := by
  subst e
  have h := od_neD (K := K) hx hx
  rw [D.eqv_self hx] at h
  exact h
theorem od_eqSelf {x y : D} (hx : x.ok = true) (e : x = y) : OpD K (rEqG K) x y (· = .bl true) := by
  subst e
  have h := od_eqD (K := K) hx hx
  rw [D.eqv_self hx] at h
  exact h
/-! places -/
theorem RpL.at_ {G : Hp} {vs : List V} {ds : List D} {i : Int} {d : D} (r : RpL K G vs ds) (h : atI ds i = some d) : ∃ v, atI vs i = some v ∧ Rp K G v d := by
  unfold atI at h ⊢
  rw [r.length]
  cases e : ixN ds.length i with
  | none => rw [e] at h; cases h
  | some l =>
    rw [e] at h
    exact r.get h
theorem od_ixL {ds : List D} {i : Int} {d : D} (h : atI ds i = some d) : OpD K (rIx K) (.lst ds) (.int i) (· = d) := fun G H v w Q e r1 r2 k => by
  cases r2
  obtain ⟨a, xs, rfl, ha, hr⟩ := r1.lst_inv
  obtain ⟨u, h1, h2⟩ := hr.at_ h
  exact .inl ⟨a, xs, i, u, rfl, rfl, .inl (.inl (e.l ha)), h1, ret1 e h2 k⟩
theorem od_ixT {ds : List D} {i : Int} {d : D} (h : atI ds i = some d) : OpD K (rIx K) (.tup ds) (.int i) (· = d) := fun G H v w Q e r1 r2 k => by
  cases r2
  obtain ⟨a, xs, rfl, ha, hr⟩ := r1.tup_inv
  obtain ⟨u, h1, h2⟩ := hr.at_ h
  exact .inr (.inl ⟨a, xs, i, u, rfl, rfl, st_ex e ha, h1, ret1 e h2 k⟩)
theorem od_ixS {z : Str} {i : Int} {c : Nat} (hz : z.length ≤ sizeLine) (h : atI z.cps.toList i = some c) : OpD K (rIx K) (.str z) (.int i) (· = .str ⟨#[c]⟩) := fun G H v w Q e r1 r2 k => by
  cases r2
  cases r1
  exact .inr (.inr ⟨z, i, c, rfl, rfl, hz, h, ret1 e (.str _) k⟩)
theorem atI_nn {α : Type} {xs : List α} {i : Int} {d : α} (h0 : 0 ≤ i) (h : xs[i.toNat]? = some d) : atI xs i = some d := by
  have := atI_nat h
  rwa [Int.toNat_of_nonneg h0] at this
/-! joining -/
theorem od_catT {xs ys : List D} (hz : xs.length + ys.length ≤ sizeLine) : OpD K (rAddG K) (.tup xs) (.tup ys) (· = .tup (xs ++ ys)) := fun G H v w Q e r1 r2 k => by
  obtain ⟨a, as, rfl, ha, hr⟩ := r1.tup_inv
  obtain ⟨b, bs, rfl, hb, hs⟩ := r2.tup_inv
  have la := hr.length
  have lb := hs.length
  refine .inr (.inr (.inl ⟨a, b, as, bs, rfl, rfl, st_ex e ha, st_ex e hb, by omega, fun z => ?_, fun _ z => ?_, fun _ _ p hp => ?_⟩))
  · subst z
    cases hr
    exact ret1 e (.tup hb hs) k
  · subst z
    cases hs
    exact ret1 e (.tup ha (by rw [List.append_nil]; exact hr)) k
  · have g := Gr.new (o := .tup (as ++ bs)) e hp
    exact k _ _ _ _ g (.tup (.inl (.inl upd_same)) ((hr.append hs).ex g.ex)) rfl
theorem od_catL {xs ys : List D} (hz : xs.length + ys.length ≤ sizeLine) : OpD K (rAddG K) (.lst xs) (.lst ys) (· = .lst (xs ++ ys)) := fun G H v w Q e r1 r2 k => by
  obtain ⟨a, as, rfl, ha, hr⟩ := r1.lst_inv
  obtain ⟨b, bs, rfl, hb, hs⟩ := r2.lst_inv
  have la := hr.length
  have lb := hs.length
  refine .inr (.inr (.inr ⟨a, b, as, bs, rfl, rfl, e.l ha, e.l hb, by omega, fun p hp => ?_⟩))
  have g := Gr.new (o := .lst (as ++ bs)) e hp
  exact k _ _ _ _ g (.lst upd_same ((hr.append hs).ex g.ex)) rfl
theorem od_catS {x y : Str} (hz : x.length + y.length ≤ sizeLine) : OpD K (rAddG K) (.str x) (.str y) (· = .str (x ++ y)) := fun G H v w Q e r1 r2 k => by
  cases r1; cases r2
  exact .inr (.inl ⟨x, y, rfl, rfl, hz, ret1 e (.str _) k⟩)
theorem od_repL {xs : List D} {n : Int} (h1 : -(2 ^ 63) ≤ n) (h2 : n < 2 ^ 63) (hz : xs.length * n.toNat ≤ sizeLine) : OpD K (rMulG K) (.lst xs) (.int n) (· = .lst (List.replicate n.toNat xs).flatten) := fun G H v w Q e r1 r2 k => by
  cases r2
  obtain ⟨a, as, rfl, ha, hr⟩ := r1.lst_inv
  refine .inr (.inr (.inl ⟨a, n, as, rfl, rfl, e.l ha, h1, h2, by rw [hr.length]; exact hz, fun p hp => ?_⟩))
  have g := Gr.new (o := .lst (List.replicate n.toNat as).flatten) e hp
  have rr : ∀ m : Nat, RpL K G (List.replicate m as).flatten (List.replicate m xs).flatten := fun m => by
    induction m with
    | zero => exact .nil
    | succ m ih =>
      rw [List.replicate_succ, List.replicate_succ, List.flatten_cons, List.flatten_cons]
      exact hr.append ih
  exact k _ _ _ _ g (.lst upd_same ((rr _).ex g.ex)) rfl
/-! cutting -/
def cutD (xs : List D) (lo hi : Option Int) : List D := (xs.drop (HT.sIx xs.length 0 lo)).take (HT.sIx xs.length xs.length hi - HT.sIx xs.length 0 lo)
theorem RpL.cut {G : Hp} {vs : List V} {ds : List D} (r : RpL K G vs ds) (lo hi : Option Int) : RpL K G (cutV vs lo hi) (cutD ds lo hi) := by
  unfold cutV cutD
  rw [r.length]
  exact (r.drop _).take _
theorem sd_lst {xs : List D} {lo hi : Option Int} : SlD K (rSlG K) (.lst xs) lo hi (· = .lst (cutD xs lo hi)) := fun G H v Q e r k => by
  obtain ⟨a, as, rfl, ha, hr⟩ := r.lst_inv
  refine .inl ⟨a, as, rfl, .inl (.inl (e.l ha)), fun p hp => ?_⟩
  have g := Gr.new (o := .lst (cutV as lo hi)) e hp
  exact k _ _ _ _ g (.lst upd_same ((hr.cut lo hi).ex g.ex)) rfl
theorem sd_tup {xs : List D} {lo hi : Option Int} : SlD K (rSlG K) (.tup xs) lo hi (· = .tup (cutD xs lo hi)) := fun G H v Q e r k => by
  obtain ⟨a, as, rfl, ha, hr⟩ := r.tup_inv
  refine .inr (.inl ⟨a, as, rfl, st_ex e ha, fun z => ?_, fun _ p hp => ?_⟩)
  · refine k _ _ _ _ (Gr.refl e) (.tup ha hr) ?_
    rw [hr.length] at z
    unfold cutD
    rw [z.1, z.2]
    simp
  · have g := Gr.new (o := .tup (cutV as lo hi)) e hp
    exact k _ _ _ _ g (.tup (.inl (.inl upd_same)) ((hr.cut lo hi).ex g.ex)) rfl
theorem sd_str {z : Str} {lo hi : Option Int} (hz : z.length ≤ sizeLine) : SlD K (rSlG K) (.str z) lo hi (· = .str (cutS z lo hi)) := fun G H v Q e r k => by
  cases r
  exact .inr (.inr ⟨z, rfl, hz, ret1 e (.str _) k⟩)
theorem cutD_nn {xs : List D} {a b : Nat} : cutD xs (some (a : Int)) (some (b : Int)) = (xs.take b).drop a := by
  unfold cutD
  rw [HT.sIx_nat, HT.sIx_nat]
  rw [List.drop_take]
  by_cases h : a ≤ xs.length
  · rw [Nat.min_eq_left h]
    by_cases hb : b ≤ xs.length
    · rw [Nat.min_eq_left hb]
    · rw [Nat.min_eq_right (by omega), List.take_of_length_le (by rw [List.length_drop]; omega), List.take_of_length_le (by rw [List.length_drop]; omega)]
  · rw [Nat.min_eq_right (show xs.length ≤ a by omega), List.drop_eq_nil_of_le (Nat.le_refl _), List.drop_eq_nil_of_le (show xs.length ≤ a by omega)]
    simp
theorem cutD_from {xs : List D} {a : Nat} : cutD xs (some (a : Int)) none = xs.drop a := by
  unfold cutD
  rw [HT.sIx_nat, HT.sIx_none]
  by_cases h : a ≤ xs.length
  · rw [Nat.min_eq_left h, List.take_of_length_le (by rw [List.length_drop]; omega)]
  · rw [List.drop_eq_nil_of_le (show xs.length ≤ a by omega), Nat.min_eq_right (by omega), List.drop_eq_nil_of_le (Nat.le_refl _)]
    simp
theorem cutD_to {xs : List D} {b : Nat} : cutD xs none (some (b : Int)) = xs.take b := by
  unfold cutD
  rw [HT.sIx_nat, HT.sIx_none]
  by_cases hb : b ≤ xs.length
  · rw [Nat.min_eq_left hb]; simp
  · rw [Nat.min_eq_right (by omega), List.take_of_length_le (show xs.length ≤ b by omega)]; simp
theorem cutD_all {xs : List D} : cutD xs none none = xs := by
  unfold cutD
  rw [HT.sIx_none, HT.sIx_none]
  simp
/-! in -/
def D.inB (x : V) (vs : List V) : Bool := inV x vs
theorem od_inT {neg : Bool} {x : D} {v : V} {ds : List D} {vs : List V} (hx : x.v = some v) (hv : ds.map D.v = vs.map some) (fx : flatV v = true) (fs : vs.all flatV = true) : OpD K (rInG K neg) x (.tup ds) (· = .bl (if neg then !inV v vs else inV v vs)) := fun G H v' w Q e r1 r2 k => by
  obtain ⟨a, as, rfl, ha, hr⟩ := r2.tup_inv
  have ev : v' = v := r1.sc hx
  have eq : ∀ {as : List V} {ds : List D} {vs : List V}, RpL K G as ds → ds.map D.v = vs.map some → as = vs := by
    intro as
    induction as with
    | nil =>
      intro ds vs r h
      cases r
      cases vs with
      | nil => rfl
      | cons _ _ => cases h
    | cons a as ih =>
      intro ds vs r h
      cases r with
      | cons ra rr =>
        cases vs with
        | nil => cases h
        | cons u us =>
          rw [List.map_cons, List.map_cons] at h
          injection h with h1 h2
          rw [ra.sc h1, ih rr h2]
  have e2 := eq hr hv
  subst e2
  subst ev
  exact .inl ⟨a, as, rfl, .inr (st_ex e ha), fx, fs, ret1 e (.bl _) k⟩
def D.isN : D → Bool
  | .non => true
  | _ => false
theorem od_isN {x : D} : OpD K rIsN x .non (· = .bl x.isN) := fun G H v w Q e r1 r2 k => by
  cases r2
  refine ⟨rfl, ?_⟩
  have : decide (v = .non) = x.isN := by cases r1 <;> simp [D.isN]
  rw [this]
  exact ret1 e (.bl _) k
theorem od_notN {x : D} : OpD K rNotN x .non (· = .bl (!x.isN)) := fun G H v w Q e r1 r2 k => by
  cases r2
  refine ⟨rfl, ?_⟩
  have : (!decide (v = .non)) = (!x.isN) := by cases r1 <;> simp [D.isN]
  rw [this]
  exact ret1 e (.bl _) k
/-! calls of built-ins -/
theorem cd_lenL {ds : List D} : CbD K (rLenC K) [.lst ds] (· = .int ds.length) := fun G H vs Q e r k => by
  cases r with
  | cons ra rr =>
    cases rr
    obtain ⟨a, as, rfl, ha, hr⟩ := ra.lst_inv
    exact ⟨_, as.length, rfl, .inl ⟨as, .inl (.inl (e.l ha)), rfl⟩, by rw [hr.length]; exact ret1 e (.int _) k⟩
theorem cd_lenT {ds : List D} : CbD K (rLenC K) [.tup ds] (· = .int ds.length) := fun G H vs Q e r k => by
  cases r with
  | cons ra rr =>
    cases rr
    obtain ⟨a, as, rfl, ha, hr⟩ := ra.tup_inv
    exact ⟨_, as.length, rfl, .inr ⟨as, st_ex e ha, rfl⟩, by rw [hr.length]; exact ret1 e (.int _) k⟩
theorem cd_lenS {z : Str} (hz : z.length ≤ sizeLine) : CbD K (rLenC K) [.str z] (· = .int z.length) := fun G H vs Q e r k => by
  cases r with
  | cons ra rr =>
    cases rr
    cases ra
    exact ⟨_, z.length, rfl, ⟨hz, rfl⟩, ret1 e (.int _) k⟩
theorem cd_intI {i : Int} : CbD K rInt1 [.int i] (· = .int i) := fun G H vs Q e r k => by
  cases r with
  | cons ra rr =>
    cases rr
    cases ra
    exact .inl ⟨i, rfl, ret1 e (.int _) k⟩
theorem cd_intB {b : Bool} : CbD K rInt1 [.bl b] (· = .int (if b then 1 else 0)) := fun G H vs Q e r k => by
  cases r with
  | cons ra rr =>
    cases rr
    cases ra
    exact .inr ⟨b, rfl, ret1 e (.int _) k⟩
theorem cd_abs {i : Int} : CbD K rAbs [.int i] (· = .int (if i < 0 then -i else i)) := fun G H vs Q e r k => by
  cases r with
  | cons ra rr =>
    cases rr
    cases ra
    exact ⟨i, rfl, ret1 e (.int _) k⟩
theorem cd_min {i j : Int} : CbD K rMin2 [.int i, .int j] (· = .int (if j < i then j else i)) := fun G H vs Q e r k => by
  cases r with
  | cons ra rr =>
    cases rr with
    | cons rb rr =>
      cases rr
      cases ra
      cases rb
      exact ⟨i, j, rfl, ret1 e (.int _) k⟩
theorem cd_max {i j : Int} : CbD K rMax2 [.int i, .int j] (· = .int (if j > i then j else i)) := fun G H vs Q e r k => by
  cases r with
  | cons ra rr =>
    cases rr with
    | cons rb rr =>
      cases rr
      cases ra
      cases rb
      exact ⟨i, j, rfl, ret1 e (.int _) k⟩
theorem cd_tupL {ds : List D} : CbD K (rTupO K) [.lst ds] (· = .tup ds) := fun G H vs Q e r k => by
  cases r with
  | cons ra rr =>
    cases rr
    obtain ⟨a, as, rfl, ha, hr⟩ := ra.lst_inv
    refine ⟨a, as, rfl, .inl ⟨.inl (.inl (e.l ha)), fun p hp => ?_⟩⟩
    have g := Gr.new (o := .tup as) e hp
    exact k _ _ _ _ g (.tup (.inl (.inl upd_same)) (hr.ex g.ex)) rfl
theorem cd_tupT {ds : List D} : CbD K (rTupO K) [.tup ds] (· = .tup ds) := fun G H vs Q e r k => by
  cases r with
  | cons ra rr =>
    cases rr
    obtain ⟨a, as, rfl, ha, hr⟩ := ra.tup_inv
    exact ⟨a, as, rfl, .inr ⟨st_ex e ha, ret1 e (.tup ha hr) k⟩⟩
theorem cd_lstL {ds : List D} : CbD K (rLstO K) [.lst ds] (· = .lst ds) := fun G H vs Q e r k => by
  cases r with
  | cons ra rr =>
    cases rr
    obtain ⟨a, as, rfl, ha, hr⟩ := ra.lst_inv
    refine ⟨a, as, rfl, .inl (.inl (.inl (e.l ha))), fun p hp => ?_⟩
    have g := Gr.new (o := .lst as) e hp
    exact k _ _ _ _ g (.lst upd_same (hr.ex g.ex)) rfl
theorem cd_lstT {ds : List D} : CbD K (rLstO K) [.tup ds] (· = .lst ds) := fun G H vs Q e r k => by
  cases r with
  | cons ra rr =>
    cases rr
    obtain ⟨a, as, rfl, ha, hr⟩ := ra.tup_inv
    refine ⟨a, as, rfl, .inr (st_ex e ha), fun p hp => ?_⟩
    have g := Gr.new (o := .lst as) e hp
    exact k _ _ _ _ g (.lst upd_same (hr.ex g.ex)) rfl
/-- xs.insert(i, e), xs a list of one's own -/
theorem xs_ins {W : WX} {Δ : En} {post : Out → Prop} {ta tb : TE} {i : Nat} {ds : List D} {j : Int} {d : D} (hi : Δ[i]? = some (Sl.own ds)) (hl : ds.length < sizeLine) (h1 : Ev K (WE W) ta Δ (· = .int j) fun _ => False) (h2 : Ev K (WE W) tb Δ (· = d) fun _ => False)
    (hj : 0 ≤ j) (hj2 : j < 2 ^ 63) (k : post (.nx (Δ.set i (.own (ds.take j.toNat ++ [d] ++ ds.drop j.toNat))))) : Xs K W (tDrop (tBM K "list" rIns (tVar i) (tCons ta (tCons tb tNil)))) Δ post := fun q G0 H0 G H σ T s k1 k2 k3 k4 k5 => by
  obtain ⟨p, vs, a1, a2, a3, a4, a5, a6⟩ := s.rs.own i ds hi
  refine ⟨_, a1, .inl ⟨rfl, vs, .inl (.inl a2)⟩, ?_⟩
  refine h1 q G0 H0 G H σ _ s (fun v d1 G1 H1 g1 r1 p1 => ?_) fun _ _ _ _ z => z.elim
  refine h2 q G0 H0 G1 H1 σ _ (s.go g1) (fun w d2 G2 H2 g2 r2 p2 => ?_) fun _ _ _ _ z => z.elim
  subst p1; subst p2
  cases r1
  have g := s.tr g1 g2
  have s2 := s.go g
  refine ⟨p, vs, j, w, rfl, rfl, g.kl a6 a2, by rw [a3.length]; exact hl, hj, hj2, ?_⟩
  have r := a3.ex g.ex
  exact k1 σ _ G2 _ g.ex (s2.change hi a1 (((r.take _).append (.cons r2 .nil)).append (r.drop _))) k
end
section
variable {K : PySem.W.Frag}
theorem od_repT {xs : List D} {n : Int} (h0 : xs ≠ []) (h1 : 0 ≤ n) (h2 : n ≤ 1000) (h3 : xs.length ≤ 1000) : OpD K (rMulG K) (.tup xs) (.int n) (· = .tup (List.replicate n.toNat xs).flatten) := fun G H v w Q e r1 r2 k => by
  cases r2
  obtain ⟨a, as, rfl, ha, hr⟩ := r1.tup_inv
  have la := hr.length
  have h0' : as ≠ [] := fun z => by
    rw [z] at la
    exact h0 (List.eq_nil_of_length_eq_zero la.symm)
  by_cases c0 : n = 0
  · subst c0
    refine .inr (.inr (.inr (.inr (.inr ⟨a, as, rfl, rfl, st_ex e ha, h0', fun p hp => ?_⟩))))
    have g := Gr.new (o := .tup []) e hp
    exact k _ _ _ _ g (.tup (.inl (.inl upd_same)) .nil) rfl
  · by_cases c1 : n = 1
    · subst c1
      refine .inr (.inr (.inr (.inr (.inl ⟨a, as, rfl, rfl, st_ex e ha, ?_⟩))))
      exact ret1 e (.tup ha (by simpa using hr)) (by simpa using k)
    · refine .inr (.inr (.inr (.inl ⟨a, n, as, rfl, rfl, st_ex e ha, h0', by omega, h2, by omega, fun p hp => ?_⟩)))
      have g := Gr.new (o := .tup (List.replicate n.toNat as).flatten) e hp
      have rr : ∀ m : Nat, RpL K G (List.replicate m as).flatten (List.replicate m xs).flatten := fun m => by
        induction m with
        | zero => exact .nil
        | succ m ih =>
          rw [List.replicate_succ, List.replicate_succ, List.flatten_cons, List.flatten_cons]
          exact hr.append ih
      exact k _ _ _ _ g (.tup (.inl (.inl upd_same)) ((rr _).ex g.ex)) rfl
theorem od_neOS {C : Addr} {fs : List (Str × D)} {z : Str} (pe : PlainEq K C) : OpD K (rNeG K) (.obj C fs) (.str z) (· = .bl true) := fun G H v w Q e r1 r2 k => by
  cases r2
  obtain ⟨a, dx, vs, rfl, hi, rf⟩ := r1.obj_inv
  exact .inr (.inr ⟨a, C, dx, vs, z, rfl, rfl, e.i hi, pe, ret1 e (.bl _) k⟩)
theorem od_eqOS {C : Addr} {fs : List (Str × D)} {z : Str} (pe : PlainEq K C) : OpD K (rEqG K) (.obj C fs) (.str z) (· = .bl false) := fun G H v w Q e r1 r2 k => by
  cases r2
  obtain ⟨a, dx, vs, rfl, hi, rf⟩ := r1.obj_inv
  exact .inr (.inr ⟨a, C, dx, vs, z, rfl, rfl, e.i hi, pe, ret1 e (.bl _) k⟩)
end
end Ts


namespace Ts
variable [Tt]
open PySem PySem.Spec PyProof.Rows L2

/-! ### a def that may be called by its name -/
structure Cal (P : Program) (w : World) (K : PySem.W.Frag) (mg : Str → Option Value) (base : Heap) (k : Nat) (x : Str) (sp : Sp) : Prop where
  ex : ∃ (f : Addr) (fd : FuncData) (ps : List Str), FnOk P w K mg base (L2.CX P w) k f fd ps sp ∧ mg x = some (.ref f) ∧ PySem.W.keepIn K (.ref f) = true ∧ Binds K fd ps []
section
variable {X : Cx} {k j : Nat} {x : Str} {sp : Sp} {E : L2.St → XK} {p pos : Pos} {e : Expr} {es : List Expr} {t : TA}
theorem pe_cal (c : Cal X.prog X.w X.K X.mg X.base k x sp) (hr : Room j X.A) (hk : k ≤ j) (hg : Gl X x) (hx : ∀ σ, PassesAt (L2.CX X.prog X.w) X σ (E σ)) (ha : PA X (e :: es) t)
    (hdb : (x == ("__debug__" : Str)) = false := by decide) (he : starEach (e :: es) X.env = (false, eval e X.env) :: starEach es X.env := by rfl) (hpl : (backTo pos (starEach es X.env)).any (·.1) = false := by rfl) :
    PE X (.Call (.Name x p) (e :: es) [] pos) (tCallS sp E t) := by
  obtain ⟨f, fd, ps, F, hm, kp, b⟩ := c.ex
  exact pe_callS F (hr.mono hk) hg hm kp b hx ha hdb he hpl
theorem passE {X : Cx} {σ : L2.St} : PassesAt (L2.CX X.prog X.w) X σ (E00 σ) := fun pins H s e s' I c => by
  obtain ⟨_, _, _, _, _, _, _, _, _, _, _, _, _, _, _, _, z⟩ := c
/-! constants of the module -/
theorem pe_globI {x : Str} {i : Int} {p : Pos} (hm : ∃ t, X.mg x = some (.int i t)) (hg : Gl X x := by rfl) (hd : (x == ("__debug__" : Str)) = false := by decide) : PE X (.Name x p) (tC (.int i)) := by
  obtain ⟨t, e⟩ := hm
  exact pe_glob hg e ⟨t, rfl⟩ hd
theorem pe_globS {x z : Str} {p : Pos} (hm : ∃ t, X.mg x = some (.str z t)) (hg : Gl X x := by rfl) (hd : (x == ("__debug__" : Str)) = false := by decide) : PE X (.Name x p) (tC (.str z)) := by
  obtain ⟨t, e⟩ := hm
  exact pe_glob hg e ⟨t, rfl⟩ hd
theorem pe_globR {x : Str} {a : Addr} {p : Pos} (hm : X.mg x = some (.ref a)) (hg : Gl X x := by rfl) (hd : (x == ("__debug__" : Str)) = false := by decide) : PE X (.Name x p) (tC (.ref a)) := pe_glob hg hm rfl hd
end

/-! ### x += y, x -= y, whatever the values -/
def rIAddG : TIp := fun x y H Q => ipI (fun i j => i + j) x y H Q ∨ ∃ i j : Str, x = .str i ∧ y = .str j ∧ i.length + j.length ≤ sizeLine ∧ Q (.str (i ++ j)) H
def rISubG : TIp := ipI fun i j => i - j
theorem ip_adds {X : Cx} : PIp X .Add (fun x y H Q => ∃ i j : Str, x = .str i ∧ y = .str j ∧ i.length + j.length ≤ sizeLine ∧ Q (.str (i ++ j)) H) := by
  intro pins s σ H x y v u Q I r1 r2 h
  obtain ⟨i, j, e1, e2, hz, q⟩ := h
  subst e1; subst e2
  obtain ⟨t, rfl⟩ := r1
  obtain ⟨t', rfl⟩ := r2
  exact PyProof.Rows.iadd_str (fun t' tk => ⟨.str _, H, I.tok _, ⟨_, rfl⟩, q⟩) hz
theorem ip_addG {X : Cx} : PIp X .Add rIAddG := PIp.or ip_add ip_adds
theorem ip_subG {X : Cx} : PIp X .Sub rISubG := ip_sub
section
variable {K : PySem.W.Frag}
theorem ip_i {f : Int → Int → Int} {i j : Int} : OpD K (ipI f) (.int i) (.int j) (· = .int (f i j)) := fun G H v w Q e r1 r2 k => by
  cases r1; cases r2
  exact ⟨i, j, rfl, rfl, ret1 e (.int _) k⟩
theorem iad {i j : Int} : OpD K rIAddG (.int i) (.int j) (· = .int (i + j)) := od_inl ip_i
theorem isu {i j : Int} : OpD K rISubG (.int i) (.int j) (· = .int (i - j)) := ip_i
theorem iads {i j : Str} (hz : i.length + j.length ≤ sizeLine) : OpD K rIAddG (.str i) (.str j) (· = .str (i ++ j)) := fun G H v w Q e r1 r2 k => by
  cases r1; cases r2
  exact .inr ⟨i, j, rfl, rfl, hz, ret1 e (.str _) k⟩
end

/-! ### len(range(a, b, c)) -/
def rLenRng3 : List V → Hp → VK → Prop := fun vs H Q => ∃ (i j c : Int) (n : Nat), vs = [.int i, .int j, .int c] ∧ RgC i j c n ∧ (n : Int) < 2 ^ 62 ∧ Q (.int n) H
theorem pe_lenRng3 {X : Cx} {a b c : Expr} {ta : TA} {p p2 pos pos2 : Pos} (hg : Gl X "len") (hm : X.mg "len" = none) (hg2 : Gl X "range") (hm2 : X.mg "range" = none) (ha : PA X [a, b, c] ta)
    (hs : starEach [a, b, c] X.env = (false, eval a X.env) :: starEach [b, c] X.env := by rfl) (hpl : (backTo pos2 (starEach [b, c] X.env)).any (·.1) = false := by rfl)
    (na : starEach [Expr.Call (.Name "range" p2) [a, b, c] [] pos2] X.env = (false, eval (.Call (.Name "range" p2) [a, b, c] [] pos2) X.env) :: starEach [] X.env := by rfl) :
    PE X (.Call (.Name "len" p) [.Call (.Name "range" p2) [a, b, c] [] pos2] [] pos) (tCB rLenRng3 ta) := by
  refine ⟨fun pins s σ H Q I h => ?_⟩
  refine Call_ (ld_blt I hg hm boot_len ?_)
  refine PyProof.Rows.callWith_builtin1 (PyProof.Rows.args_cons ?_ rfl) rfl rfl
  refine Call_ (ld_blt I hg2 hm2 boot_range (PyProof.Rows.callWith_type1 (thn (ha.run pos2 pins s σ H _ I h) fun us s1 ⟨vs, H1, I1, r1, q1⟩ => ?_) hs hpl))
  obtain ⟨i, j, k, n, e, ⟨c0, c1, c2, c3⟩, hn, q⟩ := q1
  subst e
  cases r1 with
  | cons r rr =>
    cases rr with
    | cons r' rr =>
      cases rr with
      | cons r'' rr =>
        cases rr
        obtain ⟨t, rfl⟩ := r
        obtain ⟨t', rfl⟩ := r'
        obtain ⟨t'', rfl⟩ := r''
        refine call_range_3 c0 ?_ (.inl (PyProof.noPylong_small c1))
        refine PyProof.Rows.args_nil ?_
        have I2 : Inv X pins σ H1 { s1 with heap := s1.heap.push { cls := .type "range", data := .fields #[.int i t, .int j t', .int k t''] } } := I1.kept (t' := s1.toks) fun b o e => Heap.get?_push_of_some _ e
        exact call_len_range (IsRange.new ..) c3 (by omega) ⟨.int n, H1, I2.tok _, ⟨_, rfl⟩, q⟩
theorem cd_lenRng3 {K : PySem.W.Frag} {i j c : Int} {n : Nat} (h : RgC i j c n) (hn : (n : Int) < 2 ^ 62) : CbD K rLenRng3 [.int i, .int j, .int c] (· = .int n) := fun G H vs Q e r k => by
  cases r with
  | cons ra rr =>
    cases rr with
    | cons rb rr =>
      cases rr with
      | cons rc rr =>
        cases rr
        cases ra
        cases rb
        cases rc
        exact ⟨i, j, c, n, rfl, h, hn, ret1 e (.int _) k⟩

/-! ### zip of three, each a list or a tuple -/
def ItAt (b : Bool) (h : Heap) (it a : Addr) (i : Nat) : Prop := cond b (h.IsTupleIter it a i) (h.IsListIter it a i)
def IsSq (b : Bool) (h : Heap) (a : Addr) (its : Array Value) : Prop := cond b (h.IsTuple a its) (h.IsList a its)
def SqB (K : PySem.W.Frag) (b : Bool) (H : Hp) (a : Addr) (xs : List V) : Prop := cond b (SqT K H a xs) (SqL K H a xs)
theorem ItAt.at_ {b : Bool} {h h' : Heap} {it a : Addr} {i : Nat} (x : ItAt b h it a i) (k : ∀ o, h.get? it = some o → h'.get? it = some o) : ItAt b h' it a i := by
  cases b with
  | true => exact Heap.IsTupleIter.at (show h.IsTupleIter it a i from x) k
  | false => exact Heap.IsListIter.at (show h.IsListIter it a i from x) k
theorem ItAt.obj {b : Bool} {h : Heap} {it a : Addr} {i : Nat} (x : ItAt b h it a i) : ∃ o, h.get? it = some o ∧ ∀ v, o.data ≠ .cell v := by
  cases b with
  | true =>
    obtain ⟨o1, e1, _, d1⟩ := (show h.IsTupleIter it a i from x)
    exact ⟨o1, e1, fun v q => by rw [d1] at q; cases q⟩
  | false =>
    obtain ⟨o1, e1, _, d1⟩ := (show h.IsListIter it a i from x)
    exact ⟨o1, e1, fun v q => by rw [d1] at q; cases q⟩
theorem draws_b {P : Program} {w : World} {A : Around} (hh : A.handled = none) (b : Bool) (it a : Addr) (hne : a ≠ it) (items : Array Value) :
    Draws P w A it [it, a] items.size (fun i v => items[i]? = some v) (fun i h => ItAt b h it a i ∧ IsSq b h a items) := by
  cases b with
  | true => exact Draws.tuple hh it a hne items
  | false => exact Draws.list hh it a hne items
def itObj (b : Bool) (a : Addr) : Obj := cond b { cls := .type "tuple_iterator", data := .fields #[.ref a, .int 0 0] } { cls := .type "list_iterator", data := .fields #[.ref a, .int 0 0] }
theorem begins_b (b : Bool) (a : Addr) (items : Array Value) : Begins (.ref a) (itObj b a) fun h => IsSq b h a items := by
  cases b with
  | true => exact begins_tuple a items
  | false => exact begins_list a items
theorem ItAt.new {b : Bool} {h : Heap} {it a : Addr} (e : h.get? it = some (itObj b a)) : ItAt b h it a 0 := by
  cases b with
  | true => exact ⟨_, e, rfl, rfl⟩
  | false => exact ⟨_, e, rfl, rfl⟩
section
variable {X : Cx} {pins : List (Addr × Obj)} {σ : L2.St} {H : Hp} {s : Shared} {a : Addr} {xs ys : List V}
theorem inv_sq (I : Inv X pins σ H s) {b : Bool} (h : SqB X.K b H a xs) : ∃ its : List Value, Vals xs its ∧ IsSq b s.heap a its.toArray ∧ a < s.heap.objs.size := by
  cases b with
  | true =>
    obtain ⟨its, rv, p, _⟩ := I.tuple (show SqT X.K H a xs from h)
    obtain ⟨o1, ho1, _⟩ := id p
    exact ⟨its, rv, show s.heap.IsTuple a its.toArray from p, Heap.lt_size ho1⟩
  | false =>
    obtain ⟨its, rv, p, _⟩ := I.list (show SqL X.K H a xs from h)
    exact ⟨its, rv, p.isList, p.lt⟩
theorem inv_sqi (I : Inv X pins σ H s) {b : Bool} (h : SqB X.K b H a xs) (h' : SqB X.K b H a ys) : xs = ys := by
  cases b with
  | true => exact I.tuple_inj (show SqT X.K H a xs from h) h'
  | false => exact I.list_inj (show SqL X.K H a xs from h) h'
end
def It3 (K : PySem.W.Frag) (b1 b2 b3 : Bool) (a b c : Addr) : It :=
  ⟨fun i H => ∃ (xs ys zs : List V) (x y z : V), SqB K b1 H a xs ∧ SqB K b2 H b ys ∧ SqB K b3 H c zs ∧ xs[i]? = some x ∧ ys[i]? = some y ∧ zs[i]? = some z,
    fun i H v H' => ∃ T x y z, v = .ref T ∧ H T = none ∧ H' = upd H T (.tup [x, y, z]) ∧ (∀ xs, SqB K b1 H a xs → xs[i]? = some x) ∧ (∀ ys, SqB K b2 H b ys → ys[i]? = some y) ∧ ∀ zs, SqB K b3 H c zs → zs[i]? = some z,
    fun i H => ∃ xs ys zs : List V, SqB K b1 H a xs ∧ SqB K b2 H b ys ∧ SqB K b3 H c zs ∧ i ≤ xs.length ∧ i ≤ ys.length ∧ i ≤ zs.length ∧ (i = xs.length ∨ i = ys.length ∨ i = zs.length)⟩
theorem turn_zip3 {P : Program} {w : World} {K : PySem.W.Frag} {elts : List Expr} {kk : Nat} {tpos : Pos} {b1 b2 b3 : Bool} {a b c : Addr} {N : Nat} (ha : a < N) (hb : b < N) (hc' : c < N) :
    Turn P w K (.Tuple elts kk tpos) (It3 K b1 b2 b3 a b c) [N + 5, N + 3, N + 4, N, N + 1, N + 2] (N + 5) (fun i h => IsZip h (N + 5) (N + 3) (N + 4) .none ∧ IsTupOf3 h (N + 3) (.ref N) (.ref (N + 1)) (.ref (N + 2)) ∧ (∃ x y z, IsTupOf3 h (N + 4) x y z) ∧ ItAt b1 h N a i ∧ ItAt b2 h (N + 1) b i ∧ ItAt b3 h (N + 2) c i) := by
  have S := zip_sep3 (N := N) (fp1 := [a]) (fp2 := [b]) (fp3 := [c]) (by simpa using ha) (by simpa using hb) (by simpa using hc')
  refine ⟨by simp, fun i h st d hd => ?_, fun i h h' st k => ?_, ?_, ?_, fun A i s Q E st h => wpAny_pyIter_zip st.1 h⟩
  · obtain ⟨hz, hTI, ⟨x, y, z, hTO⟩, h1, h2, h3⟩ := st
    have e' : d = N + 5 ∨ d = N + 3 ∨ d = N + 4 ∨ d = N ∨ d = N + 1 ∨ d = N + 2 := by simpa using hd
    rcases e' with q | q | q | q | q | q
    · rw [q]; exact ⟨_, hz, fun v q => nomatch q⟩
    · rw [q]; exact ⟨_, hTI, fun v q => nomatch q⟩
    · rw [q]; exact ⟨_, hTO, fun v q => nomatch q⟩
    · rw [q]; exact h1.obj
    · rw [q]; exact h2.obj
    · rw [q]; exact h3.obj
  · obtain ⟨hz, hTI, ⟨x, y, z, hTO⟩, h1, h2, h3⟩ := st
    exact ⟨k _ (by simp) _ hz, k _ (by simp) _ hTI, ⟨x, y, z, k _ (by simp) _ hTO⟩, h1.at_ fun o q => k _ (by simp) o q, h2.at_ fun o q => k _ (by simp) o q, h3.at_ fun o q => k _ (by simp) o q⟩
  · intro X hP hw hK hc i pins s σ H E I hf st hg
    subst hP hw hK
    obtain ⟨hz, hTI, ⟨x0, y0, z0, hTO⟩, h1, h2, h3⟩ := st
    obtain ⟨xs, ys, zs, x, y, z, hqx, hqy, hqz, hx, hy, hz'⟩ := hg
    obtain ⟨its, rv, p, _⟩ := inv_sq I hqx
    obtain ⟨its2, rv2, p2, _⟩ := inv_sq I hqy
    obtain ⟨its3, rv3, p3, _⟩ := inv_sq I hqz
    obtain ⟨u, hu, ru⟩ := rv.get hx
    obtain ⟨u2, hu2, ru2⟩ := rv2.get hy
    obtain ⟨u3, hu3, ru3⟩ := rv3.get hz'
    have hh : X.A.in1.handled = none := I.ok.hd hc
    have D1 := draws_b (P := X.prog) (w := X.w) hh b1 N a (Nat.ne_of_lt ha) its.toArray
    have D2 := draws_b (P := X.prog) (w := X.w) hh b2 (N + 1) b (Nat.ne_of_lt (Nat.lt_succ_of_lt hb)) its2.toArray
    have D3 := draws_b (P := X.prog) (w := X.w) hh b3 (N + 2) c (Nat.ne_of_lt (Nat.lt_succ_of_lt (Nat.lt_succ_of_lt hc'))) its3.toArray
    have hzl : N + 5 < s.heap.objs.size := Heap.lt_size hz
    refine wpAny_pyNext_zipD3_item S D1 D2 D3 hz hTI hTO ⟨h1, p⟩ ⟨h2, p2⟩ ⟨h3, p3⟩ ?_ ?_ ?_ fun x1 x2 x3 h' tk y1 y2 y3 hz1 hTO1 s1 s2 s3 hT hsz hk => ?_
    · simpa using (List.getElem?_eq_some_iff.mp hu).1
    · simpa using (List.getElem?_eq_some_iff.mp hu2).1
    · simpa using (List.getElem?_eq_some_iff.mp hu3).1
    have ex1 : x1 = u := by
      have e : its[i]? = some x1 := by simpa using y1
      rw [hu] at e
      exact (Option.some.inj e).symm
    have ex2 : x2 = u2 := by
      have e : its2[i]? = some x2 := by simpa using y2
      rw [hu2] at e
      exact (Option.some.inj e).symm
    have ex3 : x3 = u3 := by
      have e : its3[i]? = some x3 := by simpa using y3
      rw [hu3] at e
      exact (Option.some.inj e).symm
    subst ex1 ex2 ex3
    refine ⟨_, rfl, wpAny_letOwnedTupleGo_zip (s := { s with heap := h', toks := tk }) hz1 fun h'' z'' sb => ?_⟩
    have hT2 : h''.get? s.heap.objs.size = some { cls := .type "tuple", data := .seq #[x1, x2, x3] } := (sb.2 _ (Nat.ne_of_gt hzl)).trans hT
    have new : ObjOk X.prog X.w (upd H s.heap.objs.size (.tup [x, y, z])) h'' s.heap.objs.size (.tup [x, y, z]) :=
      ⟨by show 3 ≤ sizeLine; exact szl, [x1, x2, x3], .cons ru (.cons ru2 (.cons ru3 .nil)), ⟨_, hT2, rfl, _, rfl⟩⟩
    have I1 : Inv X pins σ (upd H s.heap.objs.size (.tup [x, y, z])) { s with heap := h'', toks := tk } :=
      I.turnedNew (t' := tk) (ch := [N + 5, N + 3, N + 4, N, N + 1, N + 2]) (fun c o hb q => (sb.2 c (fun q' => hb (by simp [q']))).trans (hk c o (fun q' => hb (by simp [q'])) (fun q' => hb (by simp [q'])) (fun q' => hb (by simp [q'])) (fun q' => hb (by simp [q'])) (fun q' => hb (by simp [q'])) q)) hf (Nat.le_refl _) new
    have ne : ∀ {d : Addr}, d ≠ N + 5 → ∀ o, h'.get? d = some o → h''.get? d = some o := fun hd o q => (sb.2 _ hd).trans q
    refine ⟨.ref s.heap.objs.size, _, I1, rfl, ⟨_, x, y, z, rfl, I.hok.fresh (Nat.le_refl _), rfl, fun l hl => by rw [inv_sqi I hl hqx]; exact hx, fun l hl => by rw [inv_sqi I hl hqy]; exact hy, fun l hl => by rw [inv_sqi I hl hqz]; exact hz'⟩, ⟨z'', ?_, ⟨x1, x2, x3, ?_⟩, ?_, ?_, ?_⟩, fun c hcm => ?_⟩
    · exact ne S.TIz _ (hk _ _ S.TIz S.TITO S.TIi1 S.TIi2 S.TIi3 hTI)
    · exact ne S.TOz _ hTO1
    · exact s1.1.at_ (ne S.zi1.symm)
    · exact s2.1.at_ (ne S.zi2.symm)
    · exact s3.1.at_ (ne S.zi3.symm)
    · have hlt : c < s.heap.objs.size := by
        have e' : c = N + 5 ∨ c = N + 3 ∨ c = N + 4 ∨ c = N ∨ c = N + 1 ∨ c = N + 2 := by simpa using hcm
        have hzl' : (N + 5 : Nat) < s.heap.objs.size := hzl
        rcases e' with q | q | q | q | q | q <;> rw [q] <;> first | exact hzl' | (show (_ : Nat) < s.heap.objs.size; omega)
      rw [upd_ne (Nat.ne_of_lt hlt)]
      exact (hf c hcm).1
  · intro X hP hw hK hc i pins s σ H E I hf st hg
    subst hP hw hK
    obtain ⟨hz, hTI, ⟨x0, y0, z0, hTO⟩, h1, h2, h3⟩ := st
    obtain ⟨xs, ys, zs, hqx, hqy, hqz, l1, l2, l3, hend⟩ := hg
    obtain ⟨its, rv, p, _⟩ := inv_sq I hqx
    obtain ⟨its2, rv2, p2, _⟩ := inv_sq I hqy
    obtain ⟨its3, rv3, p3, _⟩ := inv_sq I hqz
    have hh : X.A.in1.handled = none := I.ok.hd hc
    have D1 := draws_b (P := X.prog) (w := X.w) hh b1 N a (Nat.ne_of_lt ha) its.toArray
    have D2 := draws_b (P := X.prog) (w := X.w) hh b2 (N + 1) b (Nat.ne_of_lt (Nat.lt_succ_of_lt hb)) its2.toArray
    have D3 := draws_b (P := X.prog) (w := X.w) hh b3 (N + 2) c (Nat.ne_of_lt (Nat.lt_succ_of_lt (Nat.lt_succ_of_lt hc'))) its3.toArray
    have e1 := rv.length
    have e2 := rv2.length
    have e3 := rv3.length
    refine wpAny_pyNext_zipD3_end S D1 D2 D3 hz hTI hTO ⟨h1, p⟩ ⟨h2, p2⟩ ⟨h3, p3⟩ ?_ ?_ ?_ ?_ fun h' tk hk => ⟨rfl, I.turnedL (t' := tk) (ch := [N + 5, N + 3, N + 4, N, N + 1, N + 2]) (fun c o hb q =>
      hk c o (fun q' => hb (by simp [q'])) (fun q' => hb (by simp [q'])) (fun q' => hb (by simp [q'])) (fun q' => hb (by simp [q'])) (fun q' => hb (by simp [q'])) q) hf⟩
    · simp only [List.size_toArray]; omega
    · simp only [List.size_toArray]; omega
    · simp only [List.size_toArray]; omega
    · simp only [List.size_toArray]; omega
def iZip3 (K : PySem.W.Frag) (ta : TA) : TI := fun σ H R => ta σ H fun vs H1 => ∃ b1 b2 b3 a b c xs ys zs, vs = [.ref a, .ref b, .ref c] ∧ SqB K b1 H1 a xs ∧ SqB K b2 H1 b ys ∧ SqB K b3 H1 c zs ∧ R (It3 K b1 b2 b3 a b c) H1
theorem pi_zip3 {X : Cx} {e e2 e3 : Expr} {ta : TA} {p pos tpos : Pos} {elts : List Expr} {kk : Nat} (hg : Gl X "zip") (hm : X.mg "zip" = none) (ha : PA X [e, e2, e3] ta)
    (hs : starEach [e, e2, e3] X.env = (false, eval e X.env) :: starEach [e2, e3] X.env := by rfl) (hpl : (backTo pos (starEach [e2, e3] X.env)).any (·.1) = false := by rfl) :
    PI X (.Tuple elts kk tpos) (.Call (.Name "zip" p) [e, e2, e3] [] pos) (iZip3 X.K ta) := by
  refine ⟨fun pins s σ H R I h => ?_⟩
  refine Call_ (ld_blt I hg hm PyProof.Rows.boot_zip (PyProof.Rows.callWith_type1 (thn (ha.run pos pins s σ H _ I h) fun us s1 ⟨vs, H1, I1, r1, q1⟩ => ?_) hs hpl))
  obtain ⟨b1, b2, b3, a, b, c, xs, ys, zs, ex, hqx, hqy, hqz, q⟩ := q1
  subst ex
  cases r1 with
  | cons r rr =>
    cases rr with
    | cons r' rr =>
      cases rr with
      | cons r'' rr =>
        cases rr
        cases r
        cases r'
        cases r''
        obtain ⟨its, rv, p1, la⟩ := inv_sq I1 hqx
        obtain ⟨its2, rv2, p2, lb⟩ := inv_sq I1 hqy
        obtain ⟨its3, rv3, p3, lc⟩ := inv_sq I1 hqz
        refine zip_begins3 (begins_b b1 a its.toArray) (begins_b b2 b its2.toArray) (begins_b b3 c its3.toArray) p1 p2 p3 fun h' hz hTI hTO g1 g2 g3 hsz hk => wpAny_pyIter_zip hz ?_
        have I2 : Inv X pins σ H1 { s1 with heap := h' } := I1.kept (t' := s1.toks) hk
        refine ⟨s1.heap.objs.size + 5, _, _, _, H1, rfl, I2, turn_zip3 la lb lc, ⟨hz, hTI, ⟨_, _, _, hTO⟩, .new g1, .new g2, .new g3⟩, fun d hd => ?_, q⟩
        have hle : s1.heap.objs.size ≤ d := by
          have e' : d = s1.heap.objs.size + 5 ∨ d = s1.heap.objs.size + 3 ∨ d = s1.heap.objs.size + 4 ∨ d = s1.heap.objs.size ∨ d = s1.heap.objs.size + 1 ∨ d = s1.heap.objs.size + 2 := by simpa using hd
          rcases e' with q | q | q | q | q | q <;> rw [q] <;> first | exact Nat.le_refl _ | exact Nat.le_add_right _ _
        exact I1.fpOk hle (I1.hok.fresh hle)
section
variable {K : PySem.W.Frag} {E : L2.St → XK} {Δ : En} {X : Addr → Prop} {G : Hp}
/-- the items of a list or a tuple -/
def D.items : D → Option (List D)
  | .lst xs => some xs
  | .tup xs => some xs
  | _ => none
theorem Rp.sq {v : V} {d : D} {ds : List D} (r : Rp K G v d) (h : d.items = some ds) : ∃ b a xs, v = .ref a ∧ (∀ {H}, Exx G H → SqB K b H a xs) ∧ RpL K G xs ds := by
  cases r with
  | lst h1 h2 => cases h; exact ⟨false, _, _, rfl, fun e => .inl (.inl (e.l h1)), h2⟩
  | tup h1 h2 => cases h; exact ⟨true, _, _, rfl, fun e => st_ex e h1, h2⟩
  | non => cases h
  | bl b => cases h
  | int i => cases h
  | str x => cases h
  | obj _ _ => cases h
def zip3D : List D → List D → List D → List D
  | a :: as, b :: bs, c :: cs => .tup [a, b, c] :: zip3D as bs cs
  | _, _, _ => []
theorem zip3D_len : ∀ as bs cs : List D, (zip3D as bs cs).length = min as.length (min bs.length cs.length)
  | [], _, _ => by simp [zip3D]
  | _ :: _, [], _ => by simp [zip3D]
  | _ :: _, _ :: _, [] => by simp [zip3D]
  | _ :: as, _ :: bs, _ :: cs => by
    simp only [zip3D, List.length_cons]
    rw [zip3D_len as bs cs]
    omega
theorem zip3D_get : ∀ {as bs cs : List D} {i : Nat} {a b c : D}, as[i]? = some a → bs[i]? = some b → cs[i]? = some c → (zip3D as bs cs)[i]? = some (.tup [a, b, c])
  | [], _, _, i, _, _, _, h, _, _ => by simp at h
  | _ :: _, [], _, i, _, _, _, _, h, _ => by simp at h
  | _ :: _, _ :: _, [], i, _, _, _, _, _, h => by simp at h
  | _ :: as, _ :: bs, _ :: cs, 0, _, _, _, h1, h2, h3 => by
    simp at h1 h2 h3
    subst h1 h2 h3
    rfl
  | _ :: as, _ :: bs, _ :: cs, i + 1, _, _, _, h1, h2, h3 => by
    simp only [List.getElem?_cons_succ, zip3D] at h1 h2 h3 ⊢
    exact zip3D_get h1 h2 h3
theorem zip3D_of {as bs cs : List D} {i : Nat} {e : D} (h : (zip3D as bs cs)[i]? = some e) : ∃ a b c, as[i]? = some a ∧ bs[i]? = some b ∧ cs[i]? = some c ∧ e = .tup [a, b, c] := by
  have h1 := (List.getElem?_eq_some_iff.mp h).1
  rw [zip3D_len] at h1
  have ha : as[i]? = some as[i] := List.getElem?_eq_getElem (by omega)
  have hb : bs[i]? = some bs[i] := List.getElem?_eq_getElem (by omega)
  have hc : cs[i]? = some cs[i] := List.getElem?_eq_getElem (by omega)
  refine ⟨_, _, _, ha, hb, hc, ?_⟩
  rw [zip3D_get ha hb hc] at h
  exact (Option.some.inj h).symm
theorem ew_zip3 {ta : TA} {da db dc : D} {as bs cs : List D} (h : Ea K E ta Δ (· = [da, db, dc]) X) (ha : da.items = some as) (hb : db.items = some bs) (hc : dc.items = some cs) : Ew K E (iZip3 K ta) Δ (· = zip3D as bs cs) X := fun q G0 H0 G H σ Rj s k kx =>
  h q G0 H0 G H σ _ s (fun vs ds G1 H1 g1 r1 p1 => by
    subst p1
    cases r1 with
    | cons ra rr =>
      cases rr with
      | cons rb rr =>
        cases rr with
        | cons rc rr =>
          cases rr
          obtain ⟨b1, a, xs, rfl, qa, la⟩ := ra.sq ha
          obtain ⟨b2, b, ys, rfl, qb, lb⟩ := rb.sq hb
          obtain ⟨b3, c, zs, rfl, qc, lc⟩ := rc.sq hc
          refine ⟨b1, b2, b3, a, b, c, xs, ys, zs, rfl, qa g1.sub, qb g1.sub, qc g1.sub, k (It3 K b1 b2 b3 a b c) (zip3D as bs cs) G1 H1 g1 (fun G3 H3 e2 e3 => ?_) rfl⟩
          have q1 := qa (e2.trans e3)
          have q2 := qb (e2.trans e3)
          have q3 := qc (e2.trans e3)
          have l1 := la.length
          have l2 := lb.length
          have l3 := lc.length
          rw [zip3D_len]
          refine ⟨fun i hi => ⟨⟨xs, ys, zs, xs[i]'(by omega), ys[i]'(by omega), zs[i]'(by omega), q1, q2, q3, by simp [show i < xs.length by omega], by simp [show i < ys.length by omega], by simp [show i < zs.length by omega]⟩, fun x H4 y => ?_⟩, ⟨xs, ys, zs, q1, q2, q3, by omega, by omega, by omega, by omega⟩⟩
          obtain ⟨T, z1, z2, z3, rfl, hT, rfl, y1, y2, y3⟩ := y
          obtain ⟨d1, hd1, rd1⟩ := la.getV (y1 xs q1)
          obtain ⟨d2, hd2, rd2⟩ := lb.getV (y2 ys q2)
          obtain ⟨d3, hd3, rd3⟩ := lc.getV (y3 zs q3)
          have g := Gr.new (o := .tup [z1, z2, z3]) e3 hT
          have e' := e2.trans g.ex
          exact ⟨_, _, g, zip3D_get hd1 hd2 hd3, .tup (.inl (.inl upd_same)) (.cons (rd1.ex e') (.cons (rd2.ex e') (.cons (rd3.ex e') .nil)))⟩) kx

/-! ### chains, reversals -/
theorem ev_chain {r r' : R2} {ta tb tc : TE} {x y z : D} {b : Bool} {R : D → Prop} (ha : Ev K E ta Δ (· = x) X) (hb : Ev K E tb Δ (· = y) X) (ho : OpD K r x y (· = .bl b)) (hc : b = true → Ev K E tc Δ (· = z) X) (ho' : b = true → OpD K r' y z R) (hf : b = false → R (.bl false)) :
    Ev K E (tChain r r' ta tb tc) Δ R X := fun q G0 H0 G H σ Q s k kx =>
  ha q G0 H0 G H σ _ s (fun v d1 G1 H1 g1 r1 p1 => hb q G0 H0 G1 H1 σ _ (s.go g1) (fun u d2 G2 H2 g2 r2 p2 => by
    subst p1; subst p2
    refine ho G2 H2 v u _ g2.sub (r1.ex g2.ex) r2 fun w d3 G3 H3 g3 r3 p3 => ?_
    subst p3
    cases r3
    have g123 := s.tr (s.tr g1 g2) g3.any
    refine ⟨b, rfl, ?_⟩
    cases b with
    | false => exact iteF (k _ _ G3 H3 g123 (.bl false) (hf rfl))
    | true =>
      refine iteT (hc rfl q G0 H0 G3 H3 σ _ (s.go g123) (fun w2 d4 G4 H4 g4 r4 p4 => ?_) fun C G' H' g x => kx C G' H' (s.tr g123 g) x)
      subst p4
      exact ho' rfl G4 H4 u w2 Q g4.sub (r2.ex (g3.ex.trans g4.ex)) r4 fun u5 d5 G5 H5 g5 r5 p5 => k u5 d5 G5 H5 (s.tr (s.tr g123 g4) g5.any) r5 p5) fun C G' H' g x => kx C G' H' (s.tr g1 g) x) kx
theorem ev1_revL {te : TE} {ds : List D} (h : Ev K E te Δ (· = .lst ds) X) : Ev K E (tRevL K te) Δ (· = .lst ds.reverse) X := fun q G0 H0 G H σ Q s k kx =>
  h q G0 H0 G H σ _ s (fun v d G1 H1 g1 r1 p1 => by
    subst p1
    obtain ⟨a, xs, rfl, ha, hr⟩ := r1.lst_inv
    refine ⟨a, xs, rfl, .inl (.inl (g1.sub.l ha)), fun p hp => ?_⟩
    have g := Gr.new (o := .lst xs.reverse) g1.sub hp
    exact k _ _ _ _ (s.tr g1 g.any) (.lst upd_same (hr.reverse.ex g.ex)) rfl) kx
end
end Ts


/-! What the laws share: the dice, the rounds, what is told of a fault, the law's own frame. -/
namespace Ts
variable [Tt]
open PySem PySem.Spec PyProof.Rows L2

section
variable {K : PySem.W.Frag} {E : L2.St → XK} {W : WX} {Δ : En} {te ta tb : TE} {X : Addr → Prop} {post : Out → Prop} {R : D → Prop}
abbrev IntD : D → Prop := fun d => ∃ z : Int, d = .int z
theorem OpD.imp {r : R2} {x y : D} {R R' : D → Prop} (h : OpD K r x y R) (hr : ∀ d, R d → R' d) : OpD K r x y R' := fun G H v w Q e r1 r2 k => h G H v w Q e r1 r2 fun u d G' H' g rd p => k u d G' H' g rd (hr d p)
theorem CbD.imp {r : List V → Hp → VK → Prop} {xs : List D} {R R' : D → Prop} (h : CbD K r xs R) (hr : ∀ d, R d → R' d) : CbD K r xs R' := fun G H vs Q e r1 k => h G H vs Q e r1 fun u d G' H' g rd p => k u d G' H' g rd (hr d p)
theorem ev_ix_dice {i : Nat} {j : Int} (hi : Δ[i]? = some Sl.dice) (hj : j = 0 ∨ j = 1 ∨ j = 2) : Ev K E (tOp (rIx K) (tVar i) (tC (.int j))) Δ IntD X := fun q G0 H0 G H σ Q s k kx => by
  obtain ⟨a, rfl, ha⟩ := s.rs.dice i hi
  obtain ⟨x, y, z, hd⟩ := s.dq a rfl
  have : ∃ u : Int, atI [V.int x, .int y, .int z] j = some (.int u) := by
    rcases hj with rfl | rfl | rfl
    · exact ⟨x, rfl⟩
    · exact ⟨y, rfl⟩
    · exact ⟨z, rfl⟩
  obtain ⟨u, hu⟩ := this
  exact ⟨_, ha, .inl ⟨a, _, j, .int u, rfl, rfl, .inl (.inl hd), hu, k _ _ G H s.rf (.int u) ⟨u, rfl⟩⟩⟩
theorem xs_setD {i : Nat} {j : Int} (hi : Δ[i]? = some Sl.dice) (hj : j = 0 ∨ j = 1 ∨ j = 2) (h : Ev K (WE W) te Δ IntD X) (hx : ∀ C, X C → post (.ex C Δ)) (k : post (.nx Δ)) : Xs K W (tAsg te (gSub (tVar i) (tC (.int j)) rSetL)) Δ post := fun q G0 H0 G H σ Te s k1 k2 k3 k4 k5 =>
  h q G0 H0 G H σ _ s (fun v d G1 H1 g1 r1 p1 => by
    obtain ⟨w, rfl⟩ := p1
    cases r1
    have s1 := s.go g1
    obtain ⟨a, e, ha⟩ := s1.rs.dice i hi
    subst e
    obtain ⟨n1, x, y, z, hd⟩ := s1.rs.gq a rfl
    have key : ∃ (jn : Nat) (x' y' z' : Int), ixN 3 j = some jn ∧ ([V.int x, .int y, .int z]).set jn (.int w) = [.int x', .int y', .int z'] := by
      rcases hj with rfl | rfl | rfl
      · exact ⟨0, w, y, z, rfl, rfl⟩
      · exact ⟨1, x, w, z, rfl, rfl⟩
      · exact ⟨2, x, y, w, rfl, rfl⟩
    obtain ⟨jn, x', y', z', e1, e2⟩ := key
    refine ⟨.ref a, ha, a, _, j, jn, rfl, rfl, hd, e1, ?_⟩
    rw [e2]
    have g : Gr (some a) G1 H1 G1 (upd H1 a (.lst [.int x', .int y', .int z'])) := by
      refine ⟨Exx.refl _, fun _ _ e => .inl e, fun b o e nt => ?_, fun b o c e nt => ?_, Tbd.chg hd, fun b c t => ?_⟩
      · have : b ≠ a := fun z => by
          rw [z] at e
          obtain ⟨ps, h⟩ := n1 _ e
          exact nt ps h
        rw [upd_ne this]; exact s1.sub b o e nt
      · have : b ≠ a := fun z => by
          rw [z] at c
          exact c rfl
        rw [upd_ne this]; exact e
      · cases c
        exact ⟨x', y', z', upd_same⟩
    exact k1 σ Δ G1 _ g1.ex (s1.go g) k) fun C G1 H1 g x => k5 C σ Δ G1 H1 g.ex (s.go g) (hx C x)
theorem ev_intc (h : Ev K E te Δ IntD X) : Ev K E (tCB rInt1 (tCons te tNil)) Δ IntD X :=
  ev_cb (Rs := fun ds => ∃ z : Int, ds = [.int z]) (ea_cons h (fun _ _ => ea_nil) fun d ds ⟨z, e1⟩ e2 => ⟨z, by rw [e1, e2]⟩) fun ds ⟨z, e⟩ => by subst e; exact cd_intI.imp fun d e => ⟨z, e⟩
theorem ev_iop {r : R2} {n : Int} (ha : Ev K E ta Δ IntD X) (hb : Ev K E tb Δ (· = .int n) X) (ho : ∀ i : Int, OpD K r (.int i) (.int n) R) : Ev K E (tOp r ta tb) Δ R X := ev_op ha hb fun x y ⟨z, e1⟩ e2 => by subst e1; subst e2; exact ho z
theorem et_iop {r : R2} {n : Int} (ha : Ev K E ta Δ IntD X) (hb : Ev K E tb Δ (· = .int n) X) (ho : ∀ i : Int, ∃ b, OpD K r (.int i) (.int n) (· = .bl b)) : Et K E (tTest (tOp r ta tb)) Δ (fun _ => True) X :=
  et_val (ev_iop ha hb fun i => by
    obtain ⟨b, h⟩ := ho i
    exact h.imp fun d e => ⟨b, e, trivial⟩)
/-! ### _law_roll -/
def t_roll (K : PySem.W.Frag) (W : WX) : TS :=
  (tSeq (tIfS (tOr (tTest (tOp (rEqG K) (tOp (rIx K) (tVar 0) (tC (.int 2))) (tC (.int 2)))) (tAnd (tTest (tOp (rEqG K) (tOp (rIx K) (tVar 0) (tC (.int 2))) (tC (.int 1)))) (tTest (tOp rGtG (tOp (rIx K) (tVar 0) (tC (.int 0))) (tC (.int 0)))))) (tSeq (tAsg (tOp rModG (tCB rInt1 (tCons (tOp (rIx K) (tVar 0) (tC (.int 0))) tNil)) (tVar 1)) (gName 2))
  (tSeq (tAsg (tOp rDivG (tOp (rIx K) (tVar 0) (tC (.int 0))) (tVar 1)) (gSub (tVar 0) (tC (.int 0)) rSetL))
  (tRet (tVar 2)))) tNext)
  (tSeq (tAsg (tC (.int 0)) (gSub (tVar 0) (tC (.int 2)) rSetL))
  (tSeq (tAsg (tOp rModG (tCB rInt1 (tCons (tOp (rAddG K) (tOp (rAddG K) (tOp (rMulG K) (tOp (rIx K) (tVar 0) (tC (.int 0))) (tC (.int 48271))) (tOp (rMulG K) (tOp (rIx K) (tVar 0) (tC (.int 1))) (tC (.int 69621)))) (tC (.int 11))) tNil)) (tC (.int 2147483647))) (gSub (tVar 0) (tC (.int 0)) rSetL))
  (tSeq (tAsg (tOp (rAddG K) (tOp (rIx K) (tVar 0) (tC (.int 1))) (tC (.int 1))) (gSub (tVar 0) (tC (.int 1)) rSetL))
  (tRet (tOp rModG (tCB rInt1 (tCons (tOp rDivG (tOp (rIx K) (tVar 0) (tC (.int 0))) (tC (.int 7))) tNil)) (tVar 1)))))))
def rollPre : List D → Prop := fun ds => ∃ n : Int, ds = [.int n] ∧ 0 < n ∧ n < 2 ^ 90
def rollPost : List D → Res → Prop := fun ds r => ∃ n i : Int, ds = [.int n] ∧ r = .ret (.int i) ∧ 0 ≤ i ∧ i < n
abbrev spRoll (K : PySem.W.Frag) : Sp := spQ K rollPre rollPost
theorem cdivw {i n : Int} (h : 0 < n) (h2 : n < 2 ^ 90) : CDivW i n := wide_div (b := 90) h (by omega) (by decide) (by decide)
theorem roll_xs {ds : List D} (h : rollPre ds) : Xs K W (t_roll K W) (argsQ ["dice", "many", "found"] ds) (fnP rollPost ds) := by
  obtain ⟨n, rfl, hn, hn2⟩ := h
  have i0 : ∀ {Δ : En} {j : Int}, Δ[0]? = some Sl.dice → (j = 0 ∨ j = 1 ∨ j = 2) → Ev K (WE W) (tOp (rIx K) (tVar 0) (tC (.int j))) Δ IntD (fun _ => False) := fun h1 h2 => ev_ix_dice h1 h2
  refine xs_seq (xs_if (Rt := fun _ => True) (X := fun _ => False) ?_ (fun _ z => z.elim) (fun _ => ?_) fun _ => xs_next ?_)
  · refine et_or (R1 := fun _ => True) (R2 := fun _ => True) (et_iop (i0 rfl (by simp)) ev_int fun i => ⟨_, od_eqI⟩) (fun _ => ?_) (fun _ _ _ => trivial) fun _ => trivial
    exact et_and (R1 := fun _ => True) (R2 := fun _ => True) (et_iop (i0 rfl (by simp)) ev_int fun i => ⟨_, od_eqI⟩) (fun _ => et_iop (i0 rfl (by simp)) ev_int fun i => ⟨_, od_gt⟩) (fun _ _ _ => trivial) fun _ => trivial
  · refine xs_seq (xs_asg (R := fun d => ∃ i : Int, d = .int i ∧ 0 ≤ i ∧ i < n) (X := fun _ => False) ?_ (fun _ z => z.elim) fun d hd => ?_)
    · exact ev_iop (ev_intc (i0 rfl (by simp))) (ev_var rfl) fun i => (od_mod hn).imp fun d e => ⟨_, e, Int.emod_nonneg _ (by omega), Int.emod_lt_of_pos _ hn⟩
    · obtain ⟨i, rfl, h1, h2⟩ := hd
      refine xs_seq (xs_setD (X := fun _ => False) rfl (by simp) ?_ (fun _ z => z.elim) ?_)
      · exact ev_iop (i0 rfl (by simp)) (ev_var rfl) fun i => (od_div (cdivw hn hn2)).imp fun d e => ⟨_, e⟩
      · exact xs1_ret (d := .int i) (ev_var rfl) ⟨n, i, rfl, rfl, h1, h2⟩
  · refine xs_seq (xs_setD (X := fun _ => False) rfl (by simp) (ev_int.imp fun d e => ⟨_, e⟩) (fun _ z => z.elim) ?_)
    refine xs_seq (xs_setD (X := fun _ => False) rfl (by simp) ?_ (fun _ z => z.elim) ?_)
    · refine ev_iop (ev_intc (ev_iop (ev_op (Ra := IntD) (Rb := IntD) (ev_iop (i0 rfl (by simp)) ev_int fun i => (od_mul (.inr ⟨by decide, by decide⟩)).imp fun d e => ⟨_, e⟩) (ev_iop (i0 rfl (by simp)) ev_int fun i => (od_mul (.inr ⟨by decide, by decide⟩)).imp fun d e => ⟨_, e⟩) fun x y ⟨i, e1⟩ ⟨j, e2⟩ => ?_) ev_int fun i => od_add.imp fun d e => ⟨_, e⟩)) ev_int fun i => (od_mod (by decide)).imp fun d e => ⟨_, e⟩
      subst e1; subst e2
      exact od_add.imp fun d e => ⟨_, e⟩
    · refine xs_seq (xs_setD (X := fun _ => False) rfl (by simp) ?_ (fun _ z => z.elim) ?_)
      · exact ev_iop (i0 rfl (by simp)) ev_int fun i => od_add.imp fun d e => ⟨_, e⟩
      · refine xs_ret (R := fun d => ∃ i : Int, d = .int i ∧ 0 ≤ i ∧ i < n) (X := fun _ => False) ?_ (fun _ z => z.elim) fun d hd => ?_
        · exact ev_iop (ev_intc (ev_iop (i0 rfl (by simp)) ev_int fun i => (od_div (cdivw (by decide) (by decide))).imp fun d e => ⟨_, e⟩)) (ev_var rfl) fun i => (od_mod hn).imp fun d e => ⟨_, e, Int.emod_nonneg _ (by omega), Int.emod_lt_of_pos _ hn⟩
        · obtain ⟨i, rfl, h1, h2⟩ := hd
          exact ⟨n, i, rfl, rfl, h1, h2⟩
/-! ### _law_dice -/
def t_dice (K : PySem.W.Frag) (W : WX) : TS :=
  (tSeq (tIfS (tTest (tChain (rLtG K) (rLtG K) (tOp rSubG (tC (.int 0)) (tC (.int 10))) (tVar 0) (tC (.int 10)))) (tRet (tLst (tCons (tCB rAbs (tCons (tVar 0) tNil)) (tCons (tC (.int 0)) (tCons (tC (.int 2)) tNil))))) tNext)
  (tRet (tLst (tCons (tVar 0) (tCons (tOp (rAddG K) (tC (.int 1)) (tOp rModG (tCB rInt1 (tCons (tVar 0) tNil)) (tC (.int 1009)))) (tCons (tCB rInt1 (tCons (tOp rGeG (tVar 0) (tOp rPowG (tC (.int 10)) (tC (.int 18)))) tNil)) tNil))))))
def dicePre : List D → Prop := fun ds => ∃ n : Int, ds = [.int n]
def IsDice (d : D) : Prop := ∃ x y z : Int, d = .lst [.int x, .int y, .int z]
def dicePost : List D → Res → Prop := fun ds r => ∃ d, IsDice d ∧ r = .ret d
abbrev spDice (K : PySem.W.Frag) : Sp := spD K dicePre dicePost
theorem dice_xs {ds : List D} (h : dicePre ds) : Xs K W (t_dice K W) (argsE ["cell"] ds) (fnP dicePost ds) := by
  obtain ⟨c, rfl⟩ := h
  refine xs_seq (xs_if (Rt := fun _ => True) (X := fun _ => False) (et_val ?_) (fun _ z => z.elim) (fun _ => ?_) fun _ => xs_next ?_)
  · exact ev_chain (ev1_op ev_int ev_int od_sub) (ev_var rfl) od_lt (fun _ => ev_int) (fun _ => od_lt.imp fun d e => ⟨_, e, trivial⟩) fun _ => ⟨_, rfl, trivial⟩
  · exact xs1_ret (ev1_lst (ea1_cons (ev1_cb (ea1_cons (ev_var rfl) ea_nil) cd_abs) (ea1_cons ev_int (ea1_cons ev_int ea_nil)))) ⟨_, ⟨_, _, _, rfl⟩, rfl⟩
  · exact xs1_ret (ev1_lst (ea1_cons (ev_var rfl) (ea1_cons (ev1_op ev_int (ev1_op (ev1_cb (ea1_cons (ev_var rfl) ea_nil) cd_intI) ev_int (od_mod (by decide))) od_add) (ea1_cons (ev1_cb (ea1_cons (ev1_op (ev_var rfl) (ev1_op ev_int ev_int (od_pow ⟨by decide, by decide, by decide⟩)) od_ge) ea_nil) cd_intB) ea_nil)))) ⟨_, ⟨_, _, _, rfl⟩, rfl⟩
/-! ### _law_rounds(script, 1) -/
/-- the state of slots that say nothing -/
theorem sta_no {G H : Hp} {σ : L2.St} (e : Exx G H) (tb : TbOk H) : Sta K none G H G H σ (List.replicate σ.length .no) := by
  have no : ∀ {i : Nat} {x : Sl}, (List.replicate σ.length Sl.no)[i]? = some x → x = .no := fun {i x} h => by
    rw [List.getElem?_replicate] at h
    split at h
    · exact (Option.some.inj h).symm
    · cases h
  refine Sta.start ⟨e, by simp, fun a e => (nomatch e), tb, fun i d h => ?_, fun i bs h => ?_, fun i j bs cs p h => ?_, fun i h => ?_⟩
  · cases no h
  · cases no h
  · cases no h
  · cases no h
def t_rounds (K : PySem.W.Frag) (W : WX) (sp__law_dice : Sp) : TS :=
  (tSeq (tAsg (tSl (rSlG K) (tVar 0) tNoPart (tPart (tVar 1))) (gName 2))
  (tSeq (tIfS (tTest (tOp (rEqG K) (tVar 2) (tLst tNil))) (tAsg (tLst (tCons (tC (.int 0)) tNil)) (gName 2)) tNext)
  (tRet (tLc (iSeq K (tVar 2)) (gName 3) tYes (tCallS sp__law_dice E00 (tCons (tVar 3) tNil)) [3]))))
def spRounds (K : PySem.W.Frag) : Sp := fun vs H Q E => ∃ (a : Addr) (ns : List Int), vs = [.ref a, .int 1] ∧ SqL K H a (ns.map V.int) ∧ TbOk H ∧ ∀ (l d : Addr) (H' : Hp), (∀ b o, H b = some o → (∀ ps, o ≠ HO.tbl ps) → H' b = some o) → Tbd H H' → H' l = some (.lst [.ref d]) → DiceAt H' d → Q (.ref l) H'
theorem rounds_rest {c : Option Int} : Xs K W (tSeq (tIfS (tTest (tOp (rEqG K) (tVar 2) (tLst tNil))) (tAsg (tLst (tCons (tC (.int 0)) tNil)) (gName 2)) tNext)
  (tRet (tLc (iSeq K (tVar 2)) (gName 3) tYes (tCallS (spDice K) E00 (tCons (tVar 3) tNil)) [3]))) [.no, .dat (.int 1), .dat (.lst (c.toList.map D.int)), .no] (fun o => ∃ d, IsDice d ∧ o = .rt (.lst [d])) := by
  have last : ∀ n : Int, Xs K W (tRet (tLc (iSeq K (tVar 2)) (gName 3) tYes (tCallS (spDice K) E00 (tCons (tVar 3) tNil)) [3])) [.no, .dat (.int 1), .dat (.lst [.int n]), .no] (fun o => ∃ d, IsDice d ∧ o = .rt (.lst [d])) := fun n => by
    refine xs_ret (R := fun e => ∃ d, IsDice d ∧ e = .lst [d]) (X := fun _ => False) ?_ (fun _ z => z.elim) fun e ⟨d, hd, he⟩ => ⟨d, hd, by rw [he]⟩
    refine ev_lc (Rw := (· = [.int n])) (ew_inl (ew_list ((ev_var rfl).imp fun d e => ⟨[.int n], e, rfl⟩))) (fun items i acc => acc.length = i ∧ ∀ d ∈ acc, IsDice d) (fun _ _ => ⟨rfl, by simp⟩) (fun items i d acc ei hi ha => ?_) fun items acc ei ha => ?_
    · subst ei
      have e0 : i = 0 ∧ d = .int n := by
        cases i with
        | zero => simp at hi; exact ⟨rfl, hi.symm⟩
        | succ i => simp at hi
      obtain ⟨rfl, rfl⟩ := e0
      refine ⟨[3], _, by simp, tg_name, et_yes.imp fun b eb => ⟨fun _ => ?_, fun z => by rw [eb] at z; cases z⟩⟩
      refine ev_call (Rs := (· = [.int n])) (ea1_cons (ev_var rfl) ea_nil) (fun ds e => ⟨n, e⟩) (fun ds e _ ⟨e', he, z⟩ => ?_) fun ds C _ ⟨_, _, z⟩ => by cases z
      cases z
      rw [ha.1]
      refine ⟨szlt (by decide), by rw [List.length_append, ha.1]; rfl, fun x hx => ?_⟩
      rcases List.mem_append.mp hx with z | z
      · exact ha.2 x z
      · rw [List.mem_singleton.mp z]; exact he
    · subst ei
      match acc, ha with
      | [d], ⟨_, h⟩ => exact ⟨d, h d (by simp), rfl⟩
  refine xs_seq ?_
  cases c with
  | none =>
    refine xs1_if (b := true) (et1_val (ev1_op (ev_var rfl) (ev1_lst ea_nil) (od_eqSelf rfl rfl))) (fun _ => ?_) fun z => by cases z
    exact xs1_asg (d := .lst [.int 0]) (ev1_lst (ea1_cons ev_int ea_nil)) (last 0)
  | some n =>
    refine xs_if (Rt := fun _ => True) (X := fun _ => False) (et_val (ev_op (Ra := (· = .lst [.int n])) (Rb := (· = .lst [])) (ev_var rfl) (ev1_lst ea_nil) fun x y e1 e2 => ?_)) (fun _ z => z.elim) (fun _ => ?_) fun _ => ?_
    · subst e1; subst e2
      exact (od_eqD rfl rfl).imp fun d e => ⟨_, e, trivial⟩
    · exact xs1_asg (d := .lst [.int 0]) (ev1_lst (ea1_cons ev_int ea_nil)) (last 0)
    · exact xs_next (last n)
theorem rounds_pure {H : Hp} {vs : List V} {Q : VK} {E : XK} (h : spRounds K vs H Q E) : t_rounds K W (spDice K) { nx := fun _ H' => Q .non H', rt := Q } (L2.start ["script", "most", "cells", "cell"] vs) H := by
  obtain ⟨a, ns, rfl, hS, tb, k⟩ := h
  refine ⟨_, rfl, ⟨_, rfl, _, rfl, .inl ⟨a, _, rfl, hS, fun p hp => ?_⟩⟩⟩
  let G1 : Hp := upd (fun _ => none) p (.lst (cutV (ns.map V.int) none (some 1)))
  let H1 : Hp := upd H p (.lst (cutV (ns.map V.int) none (some 1)))
  have e1 : Exx G1 H1 := fun b o e nt => by
    by_cases c : b = p
    · rw [c] at e ⊢
      have e' := e
      show upd H p _ p = _
      rw [upd_same]
      rw [show G1 p = some _ from upd_same] at e'
      exact e'
    · rw [show G1 b = none from upd_ne c] at e
      cases e
  have s0 : Sta K none G1 H1 G1 H1 [some (V.ref a), some (V.int 1), none, none] (List.replicate 4 .no) := sta_no e1 (Tbd.new hp tb)
  have r1 : RpL K G1 (cutV (ns.map V.int) none (some 1)) (cutD (ns.map D.int) none (some 1)) := (RpL.ints ns).cut none (some 1)
  have ec : cutD (ns.map D.int) none (some 1) = (ns.head?.toList.map D.int) := by
    rw [show (some (1 : Int)) = some ((1 : Nat) : Int) from rfl, cutD_to]
    cases ns <;> rfl
  have s1 := (s0.set (i := 1) (v := .int 1) (.int 1)).set (i := 2) (v := .ref p) (d := .lst (ns.head?.toList.map D.int)) (by rw [← ec]; exact .lst upd_same r1)
  refine rounds_rest (W := W) none G1 H1 G1 H1 _ _ s1 (fun _ _ _ _ _ _ ⟨_, _, z⟩ => nomatch z) (fun v d G' H' g rv p2 => ?_) (fun _ _ _ _ _ _ ⟨_, _, z⟩ => nomatch z) (fun _ _ _ _ _ _ ⟨_, _, z⟩ => nomatch z) (fun _ _ _ _ _ _ _ ⟨_, _, z⟩ => nomatch z)
  obtain ⟨d', ⟨x, y, z, hd⟩, e⟩ := p2.rt fun _ _ ⟨_, _, z⟩ => nomatch z
  cases e
  obtain ⟨l, xs, rfl, hl, hr⟩ := rv.lst_inv
  cases hr with
  | cons ra rr =>
    cases rr
    subst hd
    obtain ⟨dd, ys, rfl, hdd, hr2⟩ := ra.lst_inv
    have ey : ys = [V.int x, .int y, .int z] := by
      have := RpL.ints_inv (ns := [x, y, z]) hr2
      exact this
    subst ey
    refine k l dd H' (fun b o e nt => g.keep b o (by simp) (by show upd H p _ b = _; rw [upd_ne (ne_of_none e hp)]; exact e) nt) (fun t => g.tk (Tbd.new hp t)) (g.sub.l hl) ⟨x, y, z, g.sub.l hdd⟩
end
end Ts


/-! Faults that are told, the law's own def, its frame. -/
namespace Ts
variable [Tt]
open PySem PySem.Spec PyProof.Rows L2

section
variable {K : PySem.W.Frag} {E : L2.St → XK} {W : WX} {Δ : En} {te ta tb : TE} {X : Addr → Prop} {post : Out → Prop} {R : D → Prop}
/-- _law_told(lambda: ..) -/
theorem ev_told {i : Nat} {t : XK → TE} {CS : Addr} {ret : Str} {Xb : Addr → Prop} (hi : Δ[i]? = some Sl.dice) (h : ∀ EL, Ev K (fun _ => EL) (t EL) Δ R Xb) (hx : ∀ C, Xb C → PySem.W.exmOne K (.ref C) (.ref CS) = some true) :
    Ev K E (LamX.tLam Tt.tb (LamX.TTold K CS ret) t) Δ (fun d => R d ∨ ((∃ C, Xb C) ∧ d = .str ret)) X := fun q G0 H0 G H σ Q s k kx => by
  obtain ⟨a, rfl, ha⟩ := s.rs.dice i hi
  obtain ⟨n1, dq⟩ := s.rs.gq a rfl
  refine ⟨s.rs.tb, fun H1 e1 T1 => ?_⟩
  have g : Gr (some a) G H G H1 := ⟨Exx.refl _, fun _ _ e => .inl e, fun b o e nt => e1 b o (s.sub b o e nt) nt, fun b o _ e nt => e1 b o e nt, fun _ => T1, fun b c ⟨x, y, z, d⟩ => by
    cases c
    exact ⟨x, y, z, e1 _ _ d (fun _ z => nomatch z)⟩⟩
  exact h _ (some a) G0 H0 G H1 σ Q (s.go g) (fun v d G' H' g' rv p => k v d G' H' (s.tr g g') rv (.inl p)) fun C G' H' g' x => ⟨true, hx C x, fun _ => k _ _ G' H' (s.tr g g') (.str ret) (.inr ⟨⟨C, x⟩, rfl⟩), fun z => by cases z⟩
theorem emp_sub {H : Hp} : Exx (fun _ => none) H := fun _ _ e _ => nomatch e
/-- .. at the end of a law -/
theorem told_fin {σ : L2.St} {H : Hp} {Q : VK} {t : XK → TE} {CS : Addr} {ret : Str} {Xb : Addr → Prop} (hT : TbOk H) (h : ∀ EL, Ev K (fun _ => EL) (t EL) (List.replicate σ.length .no) (fun _ => False) Xb) (hx : ∀ C, Xb C → PySem.W.exmOne K (.ref C) (.ref CS) = some true)
    (k : ∀ H', TbOk H' → Q (.str ret) H') : LamX.tLam Tt.tb (LamX.TTold K CS ret) t σ H Q := by
  refine ⟨hT, fun H1 e1 T1 => ?_⟩
  exact h _ none _ H1 _ H1 σ Q (sta_no emp_sub T1) (fun _ _ _ _ _ _ z => z.elim) fun C G' H' g' x => ⟨true, hx C x, fun _ => k H' (g'.tk T1), fun z => by cases z⟩
/-- an expression at the end of a law -/
theorem ev_fin {σ : L2.St} {H : Hp} {Q : VK} {v : V} {d : D} (h : Ev K E te (List.replicate σ.length .no) (· = d) fun _ => False) (hv : d.v = some v) (tb : TbOk H) (k : ∀ H', TbOk H' → Q v H') : te σ H Q :=
  h none _ H _ H σ Q (sta_no emp_sub tb) (fun u d' G' H' g r e => by
    subst e
    rw [r.sc hv]
    exact k H' (g.tk tb)) fun _ _ _ _ z => z.elim
theorem dec_str {x y : Str} : decide (V.str x = V.str y) = decide (x = y) := by rw [Bool.eq_iff_iff]; simp
/-- .. == 'Fault' -/
theorem told_eq {σ : L2.St} {H : Hp} {Q : VK} {ret : Str} {tl : TE} (h : ∀ Q' : VK, (∀ H', TbOk H' → Q' (.str ret) H') → tl σ H Q') (k : ∀ H', TbOk H' → Q (.bl true) H') : tOp (rEqG K) tl (tC (.str ret)) σ H Q :=
  h _ fun H' t => .inl ⟨rfl, by
    rw [decide_eq_true rfl]
    exact k H' t⟩
/-- a and b, both true, at the end of a law -/
theorem and_fin {σ : L2.St} {H : Hp} {Q : VK} (h1 : ∀ Q' : VK, (∀ H', TbOk H' → Q' (.bl true) H') → ta σ H Q') (h2 : ∀ H', TbOk H' → tb σ H' Q) : tAndV ta tb σ H Q := h1 _ fun H' t => ⟨true, rfl, iteT (h2 H' t)⟩
end

/-! ### the derivation of such a call -/
section
variable {X : Cx}
theorem pe_told {k j : Nat} {c P CS g : Addr} {x e ret : Str} {pg : Arguments} {sg : Scope} {fd : FuncData} {p1 p2 p3 p4 p5 p6 p7 p8 lpos p pos : Pos} {params : Arguments} {body : Expr} {scope : Scope} {t : XK → TE} 
    (F : FunD X.K x x pg [.Try [.Return (some (.Call (.Name "what" p1) [] [] p2)) p3] [.ExceptHandler (some (.Name e p4)) none [.Return (some (.Constant (.str ret) j p5)) p6] p7] [] [] p8] sg [] [] g fd)
    (hm : X.mg x = some (.ref g)) (hb : Binds X.K fd ["what"] []) (Sg : FnScope ["what"] ["what"] sg) (hva : Vis sg "what") (hge : sg.names.lookup e = some .globalImplicit) (hme : X.mg e = some (.ref CS))
    (TB : LamX.TabB X.base X.mg c P) (hcode : X.env.code = .ref c) (hmT : (P, X.env.qual ++ "<lambda>") ∈ Tt.tb) (hu : ∀ p ∈ Tt.tb, p.1 = P → p.2 = X.env.qual ++ "<lambda>") (hr : Room (k + 2) X.A) (hg : Gl X x) (L : LamX.LamS X.env.scope scope) (hdef : defaultsOf params X.env = ([], []))
    (hbind : ∀ (q : Str) (cl : List (Str × Addr)) (pm cv ctv : Value), bindArgs (PySem.W.kla_fn "<lambda>" q params body scope cl pm cv ctv) ⟨[], []⟩ = pure [])
    (hbody : ∀ (A : Around) (outer : List Env) (s : Shared) (H : Hp) (E : XK) (f c' : Addr), Room k (A.deeper (LamX.lamEnv X scope s.heap.objs.size f c')) → PE (LamX.lamCx X A outer s H E scope f c') body (t E))
    (hdb : (x == ("__debug__" : Str)) = false := by decide) (hde : (e == ("__debug__" : Str)) = false := by decide) :
    PE X (.Call (.Name x p) [.Lambda params body scope lpos] [] pos) (LamX.tLam Tt.tb (LamX.TTold X.K CS ret) t) := by
  have kp := F.kp
  obtain ⟨oc, od, dV, kV, doc, pm, an, cdv, ct, osl, rfl, lk, hcd, _, _⟩ := F.ex
  exact LamX.pe_lamcall (Ng := ["what"]) hg hm kp lk hcd hb Sg rfl hva (LamX.told_gives hge hme hde fun _ => rfl) TB hcode hmT hu hr L hdef hbind hbody hdb
end

/-! ### the law's own def -/
section
variable {P : Program} {w : World} {K : PySem.W.Frag} {mg : Str → Option Value} {base : Heap}
/-- a def with a promise over heaps, its code object known -/
theorem fn_H {x qual : Str} {params : Arguments} {body : List Stmt} {scope : Scope} {f : Addr} {fd : FuncData} {N ps : List Str} {k : Nat} {sp : Sp} {t : WX → TS} (F : FunD K x qual params body scope [] [] f fd) (S : FnScope N ps scope) (len : ∀ vs H Q E, sp vs H Q E → vs.length = ps.length)
    (der : ∀ (cdv : Value) (A : Around) (outer : List Env) (s : Shared) (H : Hp) (E : XK), fd.code = cdv → Room k (A.deeper (envOfC qual scope s.heap.objs.size f cdv)) → PSs (cxOf (L2.CX P w) P w K mg base N qual scope f cdv A outer s H E) body (t (wDef E)))
    (h : ∀ (W : WX) vs H Q E, sp vs H Q E → t W { nx := fun _ H' => Q .non H', rt := Q } (L2.start N vs) H) : FnOk P w K mg base (L2.CX P w) (k + 1) f fd ps sp := by
  refine ⟨len, fun A outer s H args us vs Q E hr e0 hb r hsp => ?_⟩
  obtain ⟨oc, od, dV, kV, doc, pm, an, cdv, ct, osl, rfl, lk, hcd, _, _⟩ := F.ex
  exact LamX.run_ofS lk hcd S hr e0 hb r (len vs H Q E hsp) fun hr' => ⟨t (wDef E), der cdv A outer s H E rfl hr', h (wDef E) vs H Q E hsp⟩
theorem code_of {x qual : Str} {params : Arguments} {body : List Stmt} {scope : Scope} {q : Str × Option Str} {fd : FuncData} (F : FunD K x qual params body scope [] [] (He.fAd K q) fd) : fd.code = .ref (He.cT K q).1 := by
  obtain ⟨oc, od, dV, kV, doc, pm, an, cdv, ct, osl, rfl, lk, hcd, _, _⟩ := F.ex
  obtain ⟨c, e⟩ := He.codeIn_ref hcd
  have : He.codeOf K q = c := He.codeOf_eq lk e
  show cdv = .ref (He.codeOf K q)
  rw [this, e]
/-- a def of data, known by its name -/
theorem cal_of {x : Str} {f : Addr} {fd : FuncData} {ps : List Str} {k : Nat} {sp : Sp} (F : FnOk P w K mg base (L2.CX P w) k f fd ps sp) (hm : mg x = some (.ref f)) (kp : PySem.W.keepIn K (.ref f) = true) (b : Binds K fd ps []) : Cal P w K mg base k x sp := ⟨⟨f, fd, ps, F, hm, kp, b⟩⟩
def spLaw (K : PySem.W.Frag) (cs : List Addr) : Sp := fun vs H Q E => ∃ (a : Addr) (ns : List Int), vs = [.ref a] ∧ SqL K H a (ns.map V.int) ∧ (∀ p ∈ cs, H p = some (.tbl #[])) ∧ ∀ H', Q (.bl true) H'
/-- for dice in _law_rounds(script, 1): ..; return .. -/
theorem law_frame {W : WX} {N : List Str} {cs : List Addr} {tb : TS} {tf : TE} {vs : List V} {H : Hp} {Q : VK} {E : XK} {n : Nat} (h : spLaw K cs vs H Q E) (hT : ∀ p ∈ Tt.tb, p.1 ∈ cs) (hN : N.length = n + 2)
    (hb : Xs K W tb (Sl.no :: Sl.dice :: List.replicate n Sl.no) (fun o => match o with
      | .nx _ => True
      | .ct _ => True
      | _ => False))
    (hf : ∀ (σ : L2.St) (H' : Hp), TbOk H' → tf σ H' Q) :
    (tSeq (tFor (iSeq K (tCallS (spRounds K) (WE W) (tCons (tVar 0) (tCons (tC (.int 1)) tNil)))) (gName 1) tb) (tRet tf)) { nx := fun _ H' => Q .non H', rt := Q } (L2.start N vs) H := by
  obtain ⟨a, ns, rfl, hS, hcs, k⟩ := h
  have hT0 : TbOk H := fun p hp => .nil (hcs _ (hT p hp))
  have hlen : (L2.start N [V.ref a]).length = n + 2 := by simp [L2.start, hN]
  refine .inl ⟨.ref a, start_get rfl, a, ns, rfl, hS, hT0, fun l d H1 e1 tk1 hl hd => ⟨l, rfl, ⟨[.ref d], .inl (.inl hl)⟩, ?_⟩⟩
  have hld : ∀ {H' : Hp}, H' l = some (.lst [.ref d]) → DiceAt H' d → l ≠ d := fun h1 ⟨x, y, z, h2⟩ e => by
    rw [e, h2] at h1
    cases h1
  refine ⟨fun i m σ' H' => m = 1 - i ∧ i ≤ 1 ∧ H' l = some (.lst [.ref d]) ∧ DiceAt H' d ∧ TbOk H' ∧ (i = 0 → σ'.length = n + 2 ∧ σ'[0]? = some (some (.ref a))), ⟨1, rfl, by decide, hl, hd, tk1 hT0, fun _ => ⟨hlen, start_get rfl⟩⟩, ?_⟩
  rintro i m σ' H' ⟨rfl, hi, h1, h2, h3, h4⟩
  by_cases hi0 : i = 0
  · subst hi0
    obtain ⟨h5, h6⟩ := h4 rfl
    refine .inr ⟨⟨[.ref d], .ref d, .inl (.inl h1), rfl⟩, fun σ2 H2 => H2 l = some (.lst [.ref d]) ∧ DiceAt H2 d ∧ TbOk H2, fun σ2 H2 ⟨a1, a2, a3⟩ => ⟨0, by decide, rfl, Nat.le_refl _, a1, a2, a3, fun z => nomatch z⟩, fun x H2 y => ?_⟩
    obtain ⟨e, y⟩ := y
    subst e
    have ex : V.ref d = x := by
      have := y [.ref d] (.inl (.inl h1))
      simpa using this
    subst ex
    have st : Sta K (some d) (fun _ => none) H2 (fun _ => none) H2 (σ'.set 1 (some (V.ref d))) (Sl.no :: Sl.dice :: List.replicate n Sl.no) := by
      have no : ∀ {i : Nat} {x : Sl}, (Sl.no :: Sl.dice :: List.replicate n Sl.no)[i]? = some x → x = .no ∨ (i = 1 ∧ x = .dice) := fun {i x} h => by
        match i with
        | 0 => exact .inl (Option.some.inj h).symm
        | 1 => exact .inr ⟨rfl, (Option.some.inj h).symm⟩
        | i + 2 =>
          have h' : (List.replicate n Sl.no)[i]? = some x := by simpa using h
          rw [List.getElem?_replicate] at h'
          split at h'
          · exact .inl (Option.some.inj h').symm
          · cases h'
      refine Sta.start ⟨emp_sub, by simp [h5], fun b e => ?_, h3, fun i d' h => ?_, fun i bs h => ?_, fun i j bs cs p h => ?_, fun i h => ?_⟩
      · cases e
        exact ⟨fun _ e => (nomatch e), h2⟩
      · rcases no h with z | ⟨_, z⟩ <;> cases z
      · rcases no h with z | ⟨_, z⟩ <;> cases z
      · rcases no h with z | ⟨_, z⟩ <;> cases z
      · rcases no h with z | ⟨z1, z⟩
        · cases z
        · cases z
          subst z1
          exact ⟨d, rfl, List.getElem?_set_self (by omega)⟩
    have fin : ∀ {σ2 : L2.St} {Δ2 : En} {G2 H3 : Hp}, Sta K (some d) (fun _ => none) H2 G2 H3 σ2 Δ2 → H3 l = some (.lst [.ref d]) ∧ DiceAt H3 d ∧ TbOk H3 := fun s => by
      refine ⟨s.gr.kl (fun z => ?_) h1, s.gr.dq d rfl h2, s.gr.tk h3⟩
      exact hld h1 h2 (Option.some.inj z).symm
    exact hb _ _ _ _ _ _ _ st (fun _ _ _ _ _ s _ => fin s) (fun _ _ _ _ _ _ z => (z.rt fun _ _ z => z).elim) (fun _ _ _ _ _ _ z => z.elim) (fun _ _ _ _ _ s _ => fin s) fun _ _ _ _ _ _ _ z => z.elim
  · have e : i = 1 := by omega
    subst e
    exact .inl ⟨⟨[.ref d], .inl (.inl h1), Nat.le_refl _⟩, hf σ' H' h3⟩
end
end Ts


/-! More on data: what == may look at; a, b, c = [], x, y. -/
namespace Ts
variable [Tt]
open PySem PySem.Spec PyProof.Rows L2

/-! ### data that == may look at, at most n deep -/
def okN : Nat → D → Bool
  | _, .non => true
  | _, .bl _ => true
  | _, .int _ => true
  | _, .str x => PyData.strOk x
  | n + 1, .lst xs => xs.all (okN n)
  | n + 1, .tup xs => xs.all (okN n)
  | _, _ => false
theorem okN_spec : ∀ (n : Nat) (d : D), okN n d = true → d.pure = true ∧ PyData.canLay0 d.py = true ∧ PyData.depth d.py ≤ n
  | n, .non, _ => ⟨rfl, rfl, Nat.zero_le _⟩
  | n, .bl _, _ => ⟨rfl, rfl, Nat.zero_le _⟩
  | n, .int _, _ => ⟨rfl, rfl, Nat.zero_le _⟩
  | n, .str x, h => ⟨rfl, by
    have h' : PyData.strOk x = true := by cases n <;> exact h
    exact h', Nat.zero_le _⟩
  | 0, .lst _, h => by simp [okN] at h
  | 0, .tup _, h => by simp [okN] at h
  | 0, .obj _ _, h => by simp [okN] at h
  | n + 1, .obj _ _, h => by simp [okN] at h
  | n + 1, .lst xs, h => by
    have key : ∀ ys : List D, ys.all (okN n) = true → D.pures ys = true ∧ PyData.canLayAll0 (D.pys ys) = true ∧ PyData.depthAll (D.pys ys) ≤ n := by
      intro ys
      induction ys with
      | nil => intro _; exact ⟨rfl, rfl, Nat.zero_le _⟩
      | cons y ys ih =>
        intro h
        obtain ⟨h1, h2⟩ := Bool.and_eq_true_iff.mp (by simpa using h : (okN n y && ys.all (okN n)) = true)
        obtain ⟨a1, a2, a3⟩ := okN_spec n y h1
        obtain ⟨b1, b2, b3⟩ := ih h2
        refine ⟨?_, ?_, ?_⟩
        · show (y.pure && D.pures ys) = true
          rw [a1, b1]; rfl
        · show (PyData.canLay0 y.py && PyData.canLayAll0 (D.pys ys)) = true
          rw [a2, b2]; rfl
        · exact Nat.max_le.mpr ⟨a3, b3⟩
    obtain ⟨k1, k2, k3⟩ := key xs (by simpa [okN] using h)
    exact ⟨k1, k2, Nat.succ_le_succ k3⟩
  | n + 1, .tup xs, h => by
    have key : ∀ ys : List D, ys.all (okN n) = true → D.pures ys = true ∧ PyData.canLayAll0 (D.pys ys) = true ∧ PyData.depthAll (D.pys ys) ≤ n := by
      intro ys
      induction ys with
      | nil => intro _; exact ⟨rfl, rfl, Nat.zero_le _⟩
      | cons y ys ih =>
        intro h
        obtain ⟨h1, h2⟩ := Bool.and_eq_true_iff.mp (by simpa using h : (okN n y && ys.all (okN n)) = true)
        obtain ⟨a1, a2, a3⟩ := okN_spec n y h1
        obtain ⟨b1, b2, b3⟩ := ih h2
        refine ⟨?_, ?_, ?_⟩
        · show (y.pure && D.pures ys) = true
          rw [a1, b1]; rfl
        · show (PyData.canLay0 y.py && PyData.canLayAll0 (D.pys ys)) = true
          rw [a2, b2]; rfl
        · exact Nat.max_le.mpr ⟨a3, b3⟩
    obtain ⟨k1, k2, k3⟩ := key xs (by simpa [okN] using h)
    exact ⟨k1, k2, Nat.succ_le_succ k3⟩
theorem okN_ok {n : Nat} {d : D} (h : okN n d = true) (hn : n ≤ 64 := by decide) : d.ok = true := by
  obtain ⟨h1, h2, h3⟩ := okN_spec n d h
  unfold D.ok SeqAt.shaped
  rw [h1, h2, decide_eq_true (Nat.le_trans h3 hn)]
  rfl

/-! ### a, b, c = [], x, y, the list one's own -/
section
variable {K : PySem.W.Frag} {q : Qd} {G0 H0 G H : Hp} {σ : L2.St} {Δ : En} {W : WX} {te tf : TE} {post : Out → Prop}
/-- a new list lies at p; the slot i gets it -/
theorem Sta.ownAtm (s : Sta K q G0 H0 G H σ Δ) {i : Nat} {p : Addr} {ds : Mu} {w : HO} (hp : H p = some w) (r : RpM K G p w ds) (n1 : Nt G p) (n0 : Nt H0 p) (nq : q ≠ some p)
    (other : ∀ (l : Nat) (as : Mu), Δ[l]? = some (Sl.mu as) → σ[l]? ≠ some (some (V.ref p))) : Sta K q G0 H0 G H (σ.set i (some (V.ref p))) (Δ.set i (.mu ds)) := by
  have old : ∀ {j : Nat} {e : Sl}, (Δ.set i (Sl.mu ds))[j]? = some e → (j = i ∧ e = .mu ds ∧ i < Δ.length) ∨ (j ≠ i ∧ Δ[j]? = some e ∧ (σ.set i (some (V.ref p)))[j]? = σ[j]?) := fun {j e} he => by
    by_cases c : i = j
    · subst c
      have hl : i < Δ.length := by
        have := (List.getElem?_eq_some_iff.mp he).1
        simpa using this
      rw [List.getElem?_set_self hl] at he
      cases he
      exact .inl ⟨rfl, rfl, hl⟩
    · rw [List.getElem?_set_ne c] at he
      exact .inr ⟨fun z => c z.symm, he, List.getElem?_set_ne c⟩
  have self : ∀ {l : Nat}, l = i → i < Δ.length → (σ.set i (some (V.ref p)))[l]? = some (some (V.ref p)) := fun {l} e hl => by
    subst e
    exact List.getElem?_set_self (by rw [s.rs.len]; exact hl)
  refine ⟨s.gr, s.hq, s.rs.sub, by rw [List.length_set, List.length_set]; exact s.rs.len, s.rs.gq, s.rs.tb, fun j e he => ?_, fun j bs he => ?_, fun j k bs cs p2 h1' h2' h3' h4' => ?_, fun j he => ?_⟩
  · rcases old he with ⟨_, c, _⟩ | ⟨_, c, c2⟩
    · cases c
    · rw [c2]; exact s.rs.dat j e c
  · rcases old he with ⟨c1, c, hl⟩ | ⟨_, c, c2⟩
    · cases c
      exact ⟨p, w, self c1 hl, hp, r, n1, n0, nq⟩
    · rw [c2]; exact s.rs.mu j bs c
  · rcases old h1' with ⟨c1, _, hl⟩ | ⟨m1, c1, e1⟩
    · rcases old h2' with ⟨c2, _, _⟩ | ⟨m2, c2, e2⟩
      · rw [c1, c2]
      · rw [self c1 hl] at h3'
        cases h3'
        rw [e2] at h4'
        exact absurd h4' (other _ _ c2)
    · rcases old h2' with ⟨c2, _, hl⟩ | ⟨m2, c2, e2⟩
      · rw [self c2 hl] at h4'
        cases h4'
        rw [e1] at h3'
        exact absurd h3' (other _ _ c1)
      · rw [e1] at h3'
        rw [e2] at h4'
        exact s.rs.difm j k bs cs p2 c1 c2 h3' h4'
  · rcases old he with ⟨_, c, _⟩ | ⟨_, c, c2⟩
    · cases c
    · rw [c2]; exact s.rs.dice j c
theorem Sta.ownAt (s : Sta K q G0 H0 G H σ Δ) {i : Nat} {p : Addr} {ds : List D} {vs : List V} (hp : H p = some (.lst vs)) (r : RpL K G vs ds) (n1 : Nt G p) (n0 : Nt H0 p) (nq : q ≠ some p)
    (other : ∀ (l : Nat) (as : Mu), Δ[l]? = some (Sl.mu as) → σ[l]? ≠ some (some (V.ref p))) : Sta K q G0 H0 G H (σ.set i (some (V.ref p))) (Δ.set i (.own ds)) := s.ownAtm hp (.lst r) n1 n0 nq other
theorem xs1_par30 {i j l : Nat} {d e : D} (h : Ev K (WE W) te Δ (· = d) fun _ => False) (h' : Ev K (WE W) tf Δ (· = e) fun _ => False) (k : post (.nx (((Δ.set i (.own [])).set j (.dat d)).set l (.dat e)))) :
    Xs K W (tPar3 i j l (tCons (tLst tNil) (tCons te (tCons tf tNil)))) Δ post := fun q G0 H0 G H σ T s k1 k2 k3 k4 k5 => by
  refine ⟨Nat.zero_le _, fun p hp => ?_⟩
  have g0 : Gr none G H G (upd H p (.lst [])) :=
    ⟨Exx.refl G, fun _ _ e => .inl e, fun a o e nt => by rw [upd_ne (ne_of_none (s.sub a o e nt) hp)]; exact s.sub a o e nt, fun a o _ e _ => by rw [upd_ne (ne_of_none e hp)]; exact e, Tbd.new hp, fun _ z => nomatch z⟩
  have s0 := s.go g0.any
  have hGp : Nt G p := fun o c => Classical.byContradiction fun n => by
    rw [s.sub p o c (fun ps z => n ⟨ps, z⟩)] at hp; cases hp
  have hH0 : Nt H0 p := s.gr.live s.hq (.of hp)
  have hqp : q ≠ some p := fun c => by
    obtain ⟨x, y, z, e⟩ := s.dq p c
    rw [hp] at e; cases e
  refine h q G0 H0 G _ σ _ s0 (fun v d' G1 H1 g1 r1 p1 => ?_) fun _ _ _ _ z => z.elim
  refine h' q G0 H0 G1 H1 σ _ (s0.go g1) (fun u e' G2 H2 g2 r2 p2 => ?_) fun _ _ _ _ z => z.elim
  subst p1; subst p2
  have g := s0.tr g1 g2
  have s2 := s0.go g
  have hp2 : H2 p = some (.lst []) := g.kl hqp upd_same
  have hG2 : Nt G2 p := g.un hGp upd_same
  have other : ∀ (l : Nat) (as : Mu), Δ[l]? = some (Sl.mu as) → σ[l]? ≠ some (some (V.ref p)) := fun l as e z => by
    obtain ⟨p3, vs3, a1, a2, _⟩ := s.rs.mu l as e
    rw [a1] at z
    cases z
    rw [hp] at a2; cases a2
  exact ⟨_, _, _, rfl, k1 _ _ G2 H2 g.ex (((s2.ownAt (i := i) hp2 .nil hG2 hH0 hqp other).set (r1.ex g2.ex)).set r2) k⟩
end
/-! ### range(a, b, c) upward -/
theorem RgC.up {n l : Nat} (h0 : 0 < l) (h1 : l < 2 ^ 29) (h2 : n < 2 ^ 60) : RgC 0 (n : Int) (l : Int) ((n + l - 1) / l) := by
  have e : Builtin.Range.rangeSize 0 (n : Int) (l : Int) = (((n + l - 1) / l : Nat) : Int) := by
    unfold Builtin.Range.rangeSize
    rw [if_pos (by omega)]
    by_cases hn : n = 0
    · subst hn
      rw [if_neg (by omega)]
      have : (0 + l - 1) / l = 0 := Nat.div_eq_of_lt (by omega)
      rw [this]; rfl
    · rw [if_pos (by omega)]
      have e1 : n + l - 1 = (n - 1) + l := by omega
      rw [e1, Nat.add_div_right _ h0]
      have e2 : (n : Int) - 0 - 1 = ((n - 1 : Nat) : Int) := by omega
      rw [e2, Int.natCast_add, Int.natCast_ediv]
      rfl
  refine ⟨by omega, by omega, ?_, e⟩
  have h3 : (n + l - 1) / l ≤ n + l := Nat.le_trans (Nat.div_le_self _ _) (by omega)
  have h4 : (n + l - 1) / l * l ≤ n + l - 1 := Nat.div_mul_le_self _ _
  unfold Builtin.Range.small
  rw [e]
  have e5 : (((n + l - 1) / l : Nat) : Int) * (l : Int) = (((n + l - 1) / l * l : Nat) : Int) := by rw [Int.natCast_mul]
  simp only [Builtin.Range.rangeFitsLong, Bool.and_eq_true, Bool.or_eq_true, decide_eq_true_eq, beq_iff_eq]
  generalize (n + l - 1) / l = m at *
  refine ⟨by omega, .inr ?_⟩
  rw [if_pos (by omega)]
  simp only [Bool.and_eq_true, decide_eq_true_eq]
  omega
end Ts


/-! More rules: += on tuples, *=, //=, two lists of one's own, sums, membership in lists, try, raise .. from None. -/
namespace Ts
variable [Tt]
open PySem PySem.Spec PyProof.Rows L2

/-! ### x += y of tuples; x *= y, x //= y -/
theorem no_tup_iadd : typeLookup (.type "tuple") (dunderI "add") = pure none := by rw [typeLookup_type, builtinLookup_eq_fast]; kernel_rfl
theorem icat {P : Program} {w : World} {A : Around} {E : Value → Shared → Prop} {s : Shared} {t b : Addr} {vs ws : List Value} {Q : Value → Shared → Prop} (ht : IsTup s.heap t vs.toArray) (hb : IsTup s.heap b ws.toArray) (h0 : vs = [] → Q (.ref b) s) (h1 : vs ≠ [] → ws = [] → Q (.ref t) s)
    (h2 : vs ≠ [] → ws ≠ [] → Q (.ref s.heap.objs.size) { s with heap := s.heap.push { cls := .type "tuple", data := .seq (vs ++ ws).toArray } }) (hsz : vs.length + ws.length ≤ sizeLine) : wpAny (model P w) A (inplaceOp .Add (.ref t) (.ref b)) Q E s := by
  obtain ⟨⟨c1, d1, y1, l1⟩, ho, hc, n, hd⟩ := id ht
  obtain ⟨⟨c2, d2, y2, l2⟩, ho2, hc2, n2, hd2⟩ := id hb
  simp only at hc hd hc2 hd2
  subst hc hd hc2 hd2
  have go : ∀ {S : PySem.Spec} (g : PySem.Meets (Builtin.«tuple.__add__» ⟨[.ref t, .ref b], []⟩) S), S A (PySem.wants Q E) s → wpAny (model P w) A (inplaceOp .Add (.ref t) (.ref b)) Q E s := fun {S} g h =>
    PySem.wpAny_inplaceOp_concat ⟨_, ho, rfl⟩ ⟨_, ho2, rfl⟩ no_tup_iadd noFill_tuple_add seq_tuple_add (PySem.call_meets PySem.F.slot_tuple_add ⟨_, ho, rfl⟩ PySem.F.entry_tuple_add (PySem.F.args_tuple_add_2 _ _) g h)
  by_cases hv : vs = []
  · subst hv
    exact go (tuple_addW0 t b ([] : List Value).toArray ws.toArray n n2 d1 d2 l1 l2 (by simp)) ⟨ho, ho2, h0 rfl⟩
  · by_cases hw : ws = []
    · exact go (tuple_addW1 t b vs.toArray ws.toArray n n2 d1 d2 l1 l2 (by simpa using hv) (by simp [hw])) ⟨ho, ho2, h1 hv hw⟩
    · refine go (tuple_addW2 t b vs.toArray ws.toArray n n2 d1 d2 l1 l2 (by simpa using hv) (by simpa using hw) (by simp only [List.size_toArray]; exact hsz)) ⟨ho, ho2, ?_⟩
      have e : vs.toArray ++ ws.toArray = (vs ++ ws).toArray := by simp
      rw [e]
      exact h2 hv hw
theorem ip_cat {X : Cx} : PIp X .Add (rCatA X.K) := by
  intro pins s σ H x y v u Q I rx ry h
  obtain ⟨a, b, xs, ys, rfl, rfl, ha, hb, hz, q0, q1, q2⟩ := h
  cases rx
  cases ry
  obtain ⟨its, r1, p1, _⟩ := I.tuple ha
  obtain ⟨its2, r2, p2, _⟩ := I.tuple hb
  refine icat p1 p2 (fun z => ⟨.ref b, H, I, rfl, q0 (r1.nil_iff.mp z)⟩) (fun z1 z => ⟨.ref a, H, I, rfl, q1 (fun e => z1 (r1.nil_iff.mpr e)) (r2.nil_iff.mp z)⟩) (fun z1 z => ?_) (by rw [← r1.length, ← r2.length]; exact hz)
  refine ⟨.ref s.heap.objs.size, _, I.laid (t' := s.toks) (o := .tup (xs ++ ys)) (fun b ob q => Heap.get?_push_of_some _ q) (Nat.le_refl _) ?_, rfl, q2 (fun e => z1 (r1.nil_iff.mpr e)) (fun e => z (r2.nil_iff.mpr e)) _ (I.hok.fresh (Nat.le_refl _))⟩
  exact ⟨by rw [List.length_append]; exact hz, _, r1.append r2, IsTup.new _ _⟩
def rIAddA (K : PySem.W.Frag) : TIp := fun x y H Q => rIAddG x y H Q ∨ rCatA K x y H Q
theorem ip_addA {X : Cx} : PIp X .Add (rIAddA X.K) := PIp.or ip_addG ip_cat
def rIMulG : TIp := rI CMul fun i j => .int (i * j)
def rIDivG : TIp := rI CDivW fun i j => .int (i / j)
theorem ip_mulG {X : Cx} : PIp X .Mult rIMulG := by
  intro pins s σ H x y v u Q I r1 r2 h
  obtain ⟨i, j, e1, e2, hc, q⟩ := h
  subst e1; subst e2
  obtain ⟨t, rfl⟩ := r1
  obtain ⟨t', rfl⟩ := r2
  exact PyProof.Rows.imul_int ⟨.int _, H, I.tok _, ⟨_, rfl⟩, q⟩ hc.ok
theorem ip_divG {X : Cx} : PIp X .FloorDiv rIDivG := by
  intro pins s σ H x y v u Q I r1 r2 h
  obtain ⟨i, j, e1, e2, hc, q⟩ := h
  subst e1; subst e2
  obtain ⟨t, rfl⟩ := r1
  obtain ⟨t', rfl⟩ := r2
  have h1 : (0 : Int) < j := hc.1
  have hp := PyProof.noPylong_of_log2 (x := i) hc.2
  have hj : ¬ (j == 0) = true := by
    intro z
    have := eq_of_beq z
    omega
  have e : i.fdiv j = i / j := Int.fdiv_eq_ediv_of_nonneg i (by omega)
  refine PySem.AutoIntOps.ifloordiv_1 hj (by rw [hp]; decide) ?_
  rw [e]
  exact ⟨.int _, H, I.tok _, ⟨_, rfl⟩, q⟩
section
variable {K : PySem.W.Frag}
theorem iadA {i j : Int} : OpD K (rIAddA K) (.int i) (.int j) (· = .int (i + j)) := od_inl iad
theorem icatA {xs ys : List D} (hz : xs.length + ys.length ≤ sizeLine) : OpD K (rIAddA K) (.tup xs) (.tup ys) (· = .tup (xs ++ ys)) := fun G H v w Q e r1 r2 k => by
  obtain ⟨a, as, rfl, ha, hr⟩ := r1.tup_inv
  obtain ⟨b, bs, rfl, hb, hs⟩ := r2.tup_inv
  have la := hr.length
  have lb := hs.length
  refine .inr ⟨a, b, as, bs, rfl, rfl, st_ex e ha, st_ex e hb, by omega, fun z => ?_, fun _ z => ?_, fun _ _ p hp => ?_⟩
  · subst z
    cases hr
    exact ret1 e (.tup hb hs) k
  · subst z
    cases hs
    exact ret1 e (.tup ha (by rw [List.append_nil]; exact hr)) k
  · have g := Gr.new (o := .tup (as ++ bs)) e hp
    exact k _ _ _ _ g (.tup (.inl (.inl upd_same)) ((hr.append hs).ex g.ex)) rfl
theorem imu {i j : Int} (h : CMul i j) : OpD K rIMulG (.int i) (.int j) (· = .int (i * j)) := od_intC (g := fun i j => .int (i * j)) (h := fun i j => .int (i * j)) h fun G => .int _
theorem idi {i j : Int} (h : CDivW i j) : OpD K rIDivG (.int i) (.int j) (· = .int (i / j)) := od_intC (g := fun i j => .int (i / j)) (h := fun i j => .int (i / j)) h fun G => .int _
/-! ### sums, membership -/
theorem RpL.sumI {G : Hp} {vs : List V} {ns : List Int} (r : RpL K G vs (ns.map D.int)) : vs = ns.map V.int := RpL.ints_inv r
theorem cd_sum {ns : List Int} : CbD K (rSum K) [.lst (ns.map D.int)] (· = .int ns.sum) := fun G H vs Q e r k => by
  cases r with
  | cons ra rr =>
    cases rr
    obtain ⟨a, as, rfl, ha, hr⟩ := ra.lst_inv
    have := RpL.ints_inv hr
    subst this
    exact ⟨a, ns, rfl, .inl (.inl (e.l ha)), ret1 e (.int _) k⟩
theorem od_inL {neg : Bool} {x : D} {v : V} {ns : List Int} (hx : x.v = some v) (fx : flatV v = true) : OpD K (rInG K neg) x (.lst (ns.map D.int)) (· = .bl (if neg then !inV v (ns.map V.int) else inV v (ns.map V.int))) := fun G H v' w Q e r1 r2 k => by
  obtain ⟨a, as, rfl, ha, hr⟩ := r2.lst_inv
  have ev : v' = v := r1.sc hx
  have := RpL.ints_inv hr
  subst this
  subst ev
  have fs : (ns.map V.int).all flatV = true := by
    rw [List.all_eq_true]
    intro y hy
    obtain ⟨n, _, rfl⟩ := List.mem_map.mp hy
    rfl
  exact .inl ⟨a, _, rfl, .inl (.inl (.inl (e.l ha))), fx, fs, ret1 e (.bl _) k⟩
theorem od_inTI {neg : Bool} {x : D} {v : V} {ns : List Int} (hx : x.v = some v) (fx : flatV v = true) : OpD K (rInG K neg) x (.tup (ns.map D.int)) (· = .bl (if neg then !inV v (ns.map V.int) else inV v (ns.map V.int))) := fun G H v' w Q e r1 r2 k => by
  obtain ⟨a, as, rfl, ha, hr⟩ := r2.tup_inv
  have ev : v' = v := r1.sc hx
  have := RpL.ints_inv hr
  subst this
  subst ev
  have fs : (ns.map V.int).all flatV = true := by
    rw [List.all_eq_true]
    intro y hy
    obtain ⟨n, _, rfl⟩ := List.mem_map.mp hy
    rfl
  exact .inl ⟨a, _, rfl, .inr (st_ex e ha), fx, fs, ret1 e (.bl _) k⟩
end

/-! ### tuple(xs) of a list of one's own; a, b = [], [] -/
section
variable {K : PySem.W.Frag} {E : L2.St → XK} {W : WX} {Δ : En} {X : Addr → Prop} {post : Out → Prop}
theorem ev_tup_own {i : Nat} {ds : List D} (hi : Δ[i]? = some (Sl.own ds)) : Ev K E (tCB (rTupO K) (tCons (tVar i) tNil)) Δ (· = .tup ds) X := fun q G0 H0 G H σ Q s k kx => by
  obtain ⟨p, vs, h1, h2, h3, h4, h5, h6⟩ := s.rs.own i ds hi
  refine ⟨_, h1, p, vs, rfl, .inl ⟨.inl (.inl h2), fun l hl => ?_⟩⟩
  have g := Gr.new (o := .tup vs) s.sub hl
  exact k _ _ _ _ g.any (.tup (.inl (.inl upd_same)) (h3.ex g.ex)) rfl
theorem xs_par00 {i j : Nat} (k : post (.nx ((Δ.set i (.own [])).set j (.own [])))) : Xs K W (tPar i j (tCons (tLst tNil) (tCons (tLst tNil) tNil))) Δ post := fun q G0 H0 G H σ T s k1 k2 k3 k4 k5 => by
  refine ⟨Nat.zero_le _, fun p hp => ⟨Nat.zero_le _, fun r hr => ⟨_, _, rfl, ?_⟩⟩⟩
  exact k1 _ _ G _ (Exx.refl _) ((s.newMut hp .nil).newMut hr .nil) k
end

/-! ### try .. except X: -/
def tTry (K : PySem.W.Frag) (C : Value) (th : TS) (Wout : WX) (tb : WX → TS) : TS := fun D σ H => tb (wOnly K C (fun _ _ _ => th) Wout D) D σ H
section
variable {K : PySem.W.Frag} {W : WX} {Δ : En} {post : Out → Prop} {tb : WX → TS} {th : TS} {CS : Addr}
def tryP (K : PySem.W.Frag) (W : WX) (CS : Addr) (th : TS) (post : Out → Prop) : Out → Prop
  | .ex C Δ' => ∃ b, PySem.W.exmOne K (.ref C) (.ref CS) = some b ∧ (b = true → Xs K W th Δ' post) ∧ (b = false → post (.ex C Δ'))
  | o => post o
theorem xs_try (hb : ∀ W', Xs K W' (tb W') Δ (tryP K W CS th post)) : Xs K W (tTry K (.ref CS) th W tb) Δ post := fun q G0 H0 G H σ T s k1 k2 k3 k4 k5 =>
  hb (wOnly K (.ref CS) (fun _ _ _ => th) W T) q G0 H0 G H σ T s k1 k2 k3 k4 fun C σ' Δ' G' H' e s' ⟨b, h1, h2, h3⟩ => ⟨b, h1, fun hb a _ =>
    h2 hb q G0 H0 G' H' σ' T s' (fun σ2 Δ2 G2 H2 e2 s2 p2 => k1 σ2 Δ2 G2 H2 (e.trans e2) s2 p2) k2 (fun σ2 Δ2 G2 H2 e2 s2 p2 => k3 σ2 Δ2 G2 H2 (e.trans e2) s2 p2) (fun σ2 Δ2 G2 H2 e2 s2 p2 => k4 σ2 Δ2 G2 H2 (e.trans e2) s2 p2)
      fun C σ2 Δ2 G2 H2 e2 s2 p2 => k5 C σ2 Δ2 G2 H2 (e.trans e2) s2 p2, fun hb => k5 C σ' Δ' G' H' e s' (h3 hb)⟩
end
section
variable {X : Cx} {x : Str} {CS : Addr} {body suite : List Stmt} {b₀ : Stmt} {np pos pos' : Pos} {tb : WX → TS} {th : TS} {W : WX}
theorem ps_tryT (hs : X.stack = X.env :: X.outer) (hf : X.env.frame = some X.env.locals) (hg : Gl X x) (hm : X.mg x = some (.ref CS)) (tk : L2.Takes X W)
    (hb : ∀ (W2 : WX) (pn : List (Addr × Obj)) (xe : Value → Shared → Prop), L2.Takes (X.tr pn xe) W2 → PassesOwn (model X.prog X.w) X.A X.env xe → PSs (X.tr pn xe) body (tb W2))
    (hsu : ∀ (a : Addr) (oe : Obj) (pn : List (Addr × Obj)), PSs (X.suite a ((a, oe) :: pn)) (b₀ :: suite) th) (hd : (x == ("__debug__" : Str)) = false := by decide) :
    PS X (.Try body [.ExceptHandler (some (.Name x np)) none (b₀ :: suite) pos'] [] [] pos) (tTry X.K (.ref CS) th W tb) :=
  ps_try_only hs hf ⟨hg, hd, .inl hm⟩ tk hb fun a oe cls d pn _ _ => hsu a oe pn
/-- .. whose suite raises -/
theorem ps_tryN (hs : X.stack = X.env :: X.outer) (hf : X.env.frame = some X.env.locals) (hg : Gl X x) (hm : X.mg x = some (.ref CS)) (hpa : ∀ hd : Option Value, PassesOwnAt (model X.prog X.w) (X.A.mark hd) X.A X.env X.xe) (tk : L2.Takes X W)
    (hb : ∀ (W2 : WX) (pn : List (Addr × Obj)) (xe : Value → Shared → Prop), L2N.Takes (X.tr pn xe) W2 → PassesOwn (model X.prog X.w) X.A X.env xe → PSs (X.tr pn xe) body (tb W2))
    (hsu : ∀ (a : Addr) (oe : Obj) (pn : List (Addr × Obj)), L2.Takes (L2H.suiteX X a ((a, oe) :: pn)) W → L2H.HotC (L2H.suiteX X a ((a, oe) :: pn)) → PSs (L2H.suiteX X a ((a, oe) :: pn)) (b₀ :: suite) th) (hd : (x == ("__debug__" : Str)) = false := by decide) :
    PS X (.Try body [.ExceptHandler (some (.Name x np)) none (b₀ :: suite) pos'] [] [] pos) (tTry X.K (.ref CS) th W tb) :=
  L2H.ps_try_onlyX hs hf ⟨hg, hd, .inl hm⟩ hpa tk (fun W2 pn xe t _ p => hb W2 pn xe t p) fun a oe cls d pn _ _ t h => hsu a oe pn t h
/-- X('m') in such a suite -/
theorem pmk5_own {C : Addr} {bmB : List Value} {B newId initId : String} {m : Str} {j : Nat} {p p2 : Pos} (F : ExcBaseFacts B newId initId bmB) (q : PySem.W.excIn X.K C bmB newId = true) (gC : X.mg x = some (.ref C)) (kC : PySem.W.keepIn X.K (.ref C) = true) (r : Raises X (.ref C)) (hg : Gl X x)
    (hdb : (x == ("__debug__" : Str)) = false := by decide) : L2H.PMk5 X (.Call (.Name x p) [.Constant (.str m) j p2] [] pos) (fun _ H Q => Q (.ref C) none H) := fun pins s σ H Q I h => by
  refine wpAny_Call_Name_kw (ld_glob I hg gC ?_ hdb)
  refine PySem.W.callWith_K (h₀ := X.base) I.ok.mod.kin kC (thn ((pa_cons pe_str pa_nil : PA X [.Constant (.str m) j p2] (tCons (tC (.str m)) tNil)).run pos pins s σ H (fun vs H1 => vs = [V.str m] ∧ H = H1) I ⟨rfl, rfl⟩) fun us s1 hh => ?_)
  obtain ⟨vs, H1, I1, r1, ev, eH⟩ := hh
  subst ev eH
  refine ⟨I1.kIn, ?_⟩
  match us, r1 with
  | [u], .cons ru .nil =>
    show wpAny _ _ (call (.ref C) [u]) _ _ _
    obtain ⟨_, _, _, _, _, _, _, _, _, _, _, _, _, _, _, _, _, hC, hN, hni, T⟩ := L2.exc_obj I1.kIn q
    exact wpAny_call_exc_subT F T hC hN hni (fun h' e hm => L2H.mk_of5 I1 hm r h (I1.hok.gone hm.new)) (by show 1 ≤ sizeLine; exact szl)
end
/-! ### defs whose exceptions have no context -/
theorem flz_mono {B : Heap} {l : List Env} {a : Addr} {Z Z' : Obj → Prop} {h : Heap} (f : ∀ o, Z o → Z' o) (x : HandSPX.FlyingZ B l a Z h) : HandSPX.FlyingZ B l a Z' h := by
  obtain ⟨k1, k2, k3, oe, vs, T, oT, ts, he, hz, r⟩ := x
  exact ⟨k1, k2, k3, oe, vs, T, oT, ts, he, f _ hz, r⟩
theorem fnN {P : Program} {w : World} {K : PySem.W.Frag} {mg : Str → Option Value} {base : Heap} {k : Nat} {f : Addr} {fd : FuncData} {ps : List Str} {sp : Sp} (F : FnOk P w K mg base (L2N.CX P w) k f fd ps sp) : FnOk P w K mg base (L2.CX P w) k f fd ps sp := by
  refine ⟨F.len, fun A outer s H args us vs Q E hr e0 hb r hsp => codeAny_mono (F.run A outer s H args us vs Q E hr e0 hb r hsp) fun res s' hq => ?_⟩
  cases res with
  | ok fl => cases fl <;> exact hq
  | error e =>
    obtain ⟨a, B, H', cls, d, rfl, fl, z⟩ := (show L2N.CX P w outer H s E e s' from hq)
    exact ⟨a, B, H', cls, d, rfl, flz_mono (fun o => L2N.Zn.zc) fl, z⟩
structure CalN (P : Program) (w : World) (K : PySem.W.Frag) (mg : Str → Option Value) (base : Heap) (k : Nat) (x : Str) (sp : Sp) : Prop where
  ex : ∃ (f : Addr) (fd : FuncData) (ps : List Str), FnOk P w K mg base (L2N.CX P w) k f fd ps sp ∧ mg x = some (.ref f) ∧ PySem.W.keepIn K (.ref f) = true ∧ Binds K fd ps []
theorem CalN.cal {P : Program} {w : World} {K : PySem.W.Frag} {mg : Str → Option Value} {base : Heap} {k : Nat} {x : Str} {sp : Sp} (c : CalN P w K mg base k x sp) : Cal P w K mg base k x sp := by
  obtain ⟨f, fd, ps, F, r⟩ := c.ex
  exact ⟨f, fd, ps, fnN F, r⟩
section
variable {X : Cx} {k j : Nat} {x : Str} {sp : Sp} {E : L2.St → XK} {p pos : Pos} {e : Expr} {es : List Expr} {t : TA}
theorem pe_calN (c : CalN X.prog X.w X.K X.mg X.base k x sp) (hr : Room j X.A) (hk : k ≤ j) (hg : Gl X x) (hx : ∀ σ, PassesAt (L2N.CX X.prog X.w) X σ (E σ)) (ha : PA X (e :: es) t)
    (hdb : (x == ("__debug__" : Str)) = false := by decide) (he : starEach (e :: es) X.env = (false, eval e X.env) :: starEach es X.env := by rfl) (hpl : (backTo pos (starEach es X.env)).any (·.1) = false := by rfl) :
    PE X (.Call (.Name x p) (e :: es) [] pos) (tCallS sp E t) := by
  obtain ⟨f, fd, ps, F, hm, kp, b⟩ := c.ex
  exact pe_callS F (hr.mono hk) hg hm kp b hx ha hdb he hpl
end
/-! ### the law's frame, with statements behind the loop -/
section
variable {P : Program} {w : World} {K : PySem.W.Frag} {mg : Str → Option Value} {base : Heap}
theorem sta_dice {n : Nat} {σ : L2.St} {H : Hp} {d : Addr} (hl : σ.length = n + 2) (h1 : σ[1]? = some (some (V.ref d))) (hd : DiceAt H d) (ht : TbOk H) : Sta K (some d) (fun _ => none) H (fun _ => none) H σ (Sl.no :: Sl.dice :: List.replicate n Sl.no) := by
  have no : ∀ {i : Nat} {x : Sl}, (Sl.no :: Sl.dice :: List.replicate n Sl.no)[i]? = some x → x = .no ∨ (i = 1 ∧ x = .dice) := fun {i x} h => by
    match i with
    | 0 => exact .inl (Option.some.inj h).symm
    | 1 => exact .inr ⟨rfl, (Option.some.inj h).symm⟩
    | i + 2 =>
      have h' : (List.replicate n Sl.no)[i]? = some x := by simpa using h
      rw [List.getElem?_replicate] at h'
      split at h'
      · exact .inl (Option.some.inj h').symm
      · cases h'
  refine Sta.start ⟨emp_sub, by simp [hl], fun b e => ?_, ht, fun i d' h => ?_, fun i bs h => ?_, fun i j bs cs p h => ?_, fun i h => ?_⟩
  · cases e
    exact ⟨fun _ e => (nomatch e), hd⟩
  · rcases no h with z | ⟨_, z⟩ <;> cases z
  · rcases no h with z | ⟨_, z⟩ <;> cases z
  · rcases no h with z | ⟨_, z⟩ <;> cases z
  · rcases no h with z | ⟨z1, z⟩
    · cases z
    · cases z
      subst z1
      exact ⟨d, rfl, h1⟩
def lPost (n : Nat) : Out → Prop
  | .nx Δ => Δ[1]? = some Sl.dice ∧ Δ.length = n + 2
  | .ct Δ => Δ[1]? = some Sl.dice ∧ Δ.length = n + 2
  | _ => False
theorem law_frame2 {W : WX} {N : List Str} {cs : List Addr} {tb tr : TS} {vs : List V} {H : Hp} {Q : VK} {E : XK} {n : Nat} (h : spLaw K cs vs H Q E) (hT : ∀ p ∈ Tt.tb, p.1 ∈ cs) (hN : N.length = n + 2)
    (hb : Xs K W tb (Sl.no :: Sl.dice :: List.replicate n Sl.no) (lPost n)) (hf : Xs K W tr (Sl.no :: Sl.dice :: List.replicate n Sl.no) (· = .rt (.bl true))) :
    (tSeq (tFor (iSeq K (tCallS (spRounds K) (WE W) (tCons (tVar 0) (tCons (tC (.int 1)) tNil)))) (gName 1) tb) tr) { nx := fun _ H' => Q .non H', rt := Q } (L2.start N vs) H := by
  obtain ⟨a, ns, rfl, hS, hcs, k⟩ := h
  have hT0 : TbOk H := fun p hp => .nil (hcs _ (hT p hp))
  have hlen : (L2.start N [V.ref a]).length = n + 2 := by simp [L2.start, hN]
  refine .inl ⟨.ref a, start_get rfl, a, ns, rfl, hS, hT0, fun l d H1 e1 tk1 hl hd => ⟨l, rfl, ⟨[.ref d], .inl (.inl hl)⟩, ?_⟩⟩
  have hld : ∀ {H' : Hp}, H' l = some (.lst [.ref d]) → DiceAt H' d → l ≠ d := fun h1 ⟨x, y, z, h2⟩ e => by
    rw [e, h2] at h1
    cases h1
  refine ⟨fun i m σ' H' => m = 1 - i ∧ i ≤ 1 ∧ H' l = some (.lst [.ref d]) ∧ DiceAt H' d ∧ TbOk H' ∧ σ'.length = n + 2 ∧ (i = 1 → σ'[1]? = some (some (.ref d))), ⟨1, rfl, by decide, hl, hd, tk1 hT0, hlen, fun z => (nomatch z)⟩, ?_⟩
  rintro i m σ' H' ⟨rfl, hi, h1, h2, h3, h5, h6⟩
  by_cases hi0 : i = 0
  · subst hi0
    refine .inr ⟨⟨[.ref d], .ref d, .inl (.inl h1), rfl⟩, fun σ2 H2 => H2 l = some (.lst [.ref d]) ∧ DiceAt H2 d ∧ TbOk H2 ∧ σ2.length = n + 2 ∧ σ2[1]? = some (some (.ref d)), fun σ2 H2 ⟨a1, a2, a3, a4, a5⟩ => ⟨0, by decide, rfl, Nat.le_refl _, a1, a2, a3, a4, fun _ => a5⟩, fun x H2 y => ?_⟩
    obtain ⟨e, y⟩ := y
    subst e
    have ex : V.ref d = x := by
      have := y [.ref d] (.inl (.inl h1))
      simpa using this
    subst ex
    have st : Sta K (some d) (fun _ => none) H2 (fun _ => none) H2 (σ'.set 1 (some (V.ref d))) (Sl.no :: Sl.dice :: List.replicate n Sl.no) := sta_dice (by simp [h5]) (List.getElem?_set_self (by omega)) h2 h3
    have fin : ∀ {σ2 : L2.St} {Δ2 : En} {G2 H3 : Hp}, Sta K (some d) (fun _ => none) H2 G2 H3 σ2 Δ2 → (Δ2[1]? = some Sl.dice ∧ Δ2.length = n + 2) → H3 l = some (.lst [.ref d]) ∧ DiceAt H3 d ∧ TbOk H3 ∧ σ2.length = n + 2 ∧ σ2[1]? = some (some (.ref d)) := fun s p => by
      refine ⟨s.gr.kl (fun z => ?_) h1, s.gr.dq d rfl h2, s.gr.tk h3, by rw [s.rs.len, p.2], ?_⟩
      · exact hld h1 h2 (Option.some.inj z).symm
      · obtain ⟨a', e, e2⟩ := s.rs.dice 1 p.1
        cases e
        exact e2
    exact hb _ _ _ _ _ _ _ st (fun _ _ _ _ _ s p => fin s p) (fun _ _ _ _ _ _ z => (z.rt fun _ _ z => z).elim) (fun _ _ _ _ _ _ z => z.elim) (fun _ _ _ _ _ s p => fin s p) fun _ _ _ _ _ _ _ z => z.elim
  · have e : i = 1 := by omega
    subst e
    refine .inl ⟨⟨[.ref d], .inl (.inl h1), Nat.le_refl _⟩, ?_⟩
    refine hf _ _ _ _ _ _ _ (sta_dice (K := K) h5 (h6 rfl) h2 h3) (fun _ _ _ _ _ _ z => nomatch z) (fun v d' G' H2 g r z => ?_) (fun _ _ _ _ _ _ z => nomatch z) (fun _ _ _ _ _ _ z => nomatch z) fun _ _ _ _ _ _ _ z => nomatch z
    cases z.rt fun _ _ z => nomatch z
    cases r
    exact k H2
end
end Ts


/-! Promises by families; numbers as bytes (fixed, number_from, natural, natural_from, checksum). -/
namespace Ts
variable [Tt]
open PySem PySem.Spec PyProof.Rows L2

/-! ### a promise for each i -/
def spI (K : PySem.W.Frag) {ι : Type} (args : ι → List D) (pre : ι → Prop) (res : ι → Res) : Sp := fun vs H Q E => ∃ (i : ι) (G : Hp), Exx G H ∧ TbOk H ∧ RpL K G vs (args i) ∧ pre i ∧
  (∀ (v : V) (d : D) (G' H' : Hp), Gr none G H G' H' → Rp K G' v d → res i = .ret d → Q v H') ∧ (∀ (C : Addr) (G' H' : Hp), Gr none G H G' H' → res i = .exc C → E (.ref C) none H')
def fnR (r : Res) : Out → Prop
  | .nx _ => r = .ret .non
  | .rt d => r = .ret d
  | .ex C _ => r = .exc C
  | _ => False
section
variable {K : PySem.W.Frag} {E : L2.St → XK} {Δ : En} {R : D → Prop} {X : Addr → Prop} {ι : Type} {args : ι → List D} {pre : ι → Prop} {res : ι → Res} {tr : TA}
theorem ev_callI (i : ι) (h : Ea K E tr Δ (· = args i) X) (hp : pre i) (hr : ∀ d, res i = .ret d → R d) (hx : ∀ C, res i = .exc C → X C) : Ev K E (tCallS (spI K args pre res) E tr) Δ R X := fun q G0 H0 G H σ Q s k kx =>
  h q G0 H0 G H σ _ s (fun vs ds G1 H1 g1 r1 p1 => ⟨i, G1, g1.sub, (s.go g1).rs.tb, by rw [← p1]; exact r1, hp, fun v d G' H' g rd po => k v d G' H' (s.tr g1 g.any) rd (hr d po), fun C G' H' g po => kx C G' H' (s.tr g1 g.any) (hx C po)⟩) kx
theorem ev1_callI (i : ι) {d : D} (h : Ea K E tr Δ (· = args i) X) (hp : pre i) (hr : res i = .ret d) : Ev K E (tCallS (spI K args pre res) E tr) Δ (· = d) X :=
  ev_callI i h hp (fun e z => by rw [hr] at z; injection z with z; exact z.symm) fun C z => by rw [hr] at z; cases z
variable {P : Program} {w : World} {mg : Str → Option Value} {base : Heap} {x qual : Str} {params : Arguments} {body : List Stmt} {scope : Scope} {dvs : List V} {kws : List (Str × V)} {f : Addr} {fd : FuncData} {N ps : List Str} {k : Nat}
theorem fn_I {CX : CXT} {t : WX → TS} (F : FunD K x qual params body scope dvs kws f fd) (S : FnScope N ps scope) (hp : ∀ i, (args i).length = ps.length)
    (der : ∀ (cdv : Value) (A : Around) (outer : List Env) (s : Shared) (H : Hp) (E : XK), Room k (A.deeper (envOfC qual scope s.heap.objs.size f cdv)) → PSs (cxOf CX P w K mg base N qual scope f cdv A outer s H E) body (t (wDef E)))
    (h : ∀ (W : WX) i, pre i → Xs K W (t W) (argsE N (args i)) (fnR (res i))) : FnOk P w K mg base CX (k + 1) f fd ps (spI K args pre res) := by
  have hNl : ps.length ≤ N.length := by have := congrArg List.length S.pre; rw [List.length_take] at this; omega
  refine F.ok S (fun vs H Q E hsp => ?_) fun cdv A outer s H vs Q E hr hsp => ⟨t (wDef E), der cdv A outer s H E hr, ?_⟩
  · obtain ⟨i, G, _, _, r, _⟩ := hsp
    rw [r.length]; exact hp i
  · obtain ⟨i, G, e, tb, r, p, k1, k2⟩ := hsp
    have hl : (args i).length ≤ N.length := by rw [hp i]; exact hNl
    exact h (wDef E) i p none G H G H (L2.start N vs) _ (sta_args e tb r hl) (fun σ' Δ' G' H' e' s' q => k1 .non .non G' H' s'.gr .non q) (fun v d G' H' g rv q => k1 v d G' H' g rv (q.rt fun _ _ z => z)) (fun _ _ _ _ _ _ z => False.elim z) (fun _ _ _ _ _ _ z => False.elim z) fun C σ' Δ' G' H' e' s' q => k2 C G' H' s'.gr q
end
theorem then_nx {K : PySem.W.Frag} {W : WX} {u : TS} {Δ : En} {post : Out → Prop} (h : Xs K W u Δ post) : thenP K W u post (.nx Δ) := h
/-! plain lists -/
theorem get_ex {α : Type} {xs : List α} {i : Nat} (h : i < xs.length) : ∃ x, xs[i]? = some x := ⟨_, List.getElem?_eq_getElem h⟩
theorem drop_at {α : Type} {xs : List α} {i : Nat} {x : α} (h : xs[i]? = some x) : xs.drop i = x :: xs.drop (i + 1) := by
  obtain ⟨hl, e⟩ := List.getElem?_eq_some_iff.mp h
  rw [List.drop_eq_getElem_cons hl, e]
theorem take_at {α : Type} {xs : List α} {i : Nat} {x : α} (h : xs[i]? = some x) : xs.take (i + 1) = xs.take i ++ [x] := by rw [List.take_add_one, h]; rfl
theorem map_get {α β : Type} {f : α → β} {xs : List α} {i : Nat} {x : α} (h : xs[i]? = some x) : (xs.map f)[i]? = some (f x) := by rw [List.getElem?_map, h]; rfl
theorem of_map_get {α β : Type} {f : α → β} {xs : List α} {i : Nat} {y : β} (h : (xs.map f)[i]? = some y) : ∃ x, xs[i]? = some x ∧ y = f x := by
  rw [List.getElem?_map] at h
  cases e : xs[i]? with
  | none => rw [e] at h; cases h
  | some x =>
    rw [e] at h
    exact ⟨x, rfl, (Option.some.inj h).symm⟩
def bD (bs : List Int) : D := .tup (bs.map D.int)
theorem bD_app {a b : List Int} : D.tup (a.map D.int ++ b.map D.int) = bD (a ++ b) := by rw [← List.map_append]; rfl
theorem bD_okN {n : Nat} (a : List Int) : okN (n + 1) (bD a) = true := by
  show (a.map D.int).all (okN n) = true
  rw [List.all_eq_true]
  intro d hd
  obtain ⟨x, _, rfl⟩ := List.mem_map.mp hd
  cases n <;> rfl
theorem bD_ok (a : List Int) : (bD a).ok = true := okN_ok (n := 1) (bD_okN (n := 0) a)
/-! ### the functions -/
/-- the m lowest bytes, the lowest first -/
def low : Nat → Int → List Int
  | 0, _ => []
  | m + 1, n => n % 256 :: low m (n / 256)
def shr : Nat → Int → Int
  | 0, n => n
  | j + 1, n => shr j n / 256
theorem shr_s : ∀ (j : Nat) (n : Int), shr j (n / 256) = shr (j + 1) n
  | 0, _ => rfl
  | j + 1, n => by
    show shr j (n / 256) / 256 = shr (j + 1) n / 256
    rw [shr_s j n]
theorem low_s : ∀ (j : Nat) (n : Int), low (j + 1) n = low j n ++ [shr j n % 256]
  | 0, _ => rfl
  | j + 1, n => by
    show n % 256 :: low (j + 1) (n / 256) = n % 256 :: low j (n / 256) ++ [shr (j + 1) n % 256]
    rw [low_s j (n / 256), shr_s]
    rfl
theorem low_len : ∀ (m : Nat) (n : Int), (low m n).length = m
  | 0, _ => rfl
  | m + 1, n => by simp [low, low_len m]
def fixedI (n : Int) (m : Nat) : List Int := (low m n).reverse
theorem fixedI_len (n : Int) (m : Nat) : (fixedI n m).length = m := by simp [fixedI, low_len]
def numI (bs : List Int) : Int := bs.foldl (fun f x => f * 256 + x) 0
def csP : Int × Int → Int → Int × Int := fun p x => ((p.1 + x) % 65521, (p.2 + (p.1 + x) % 65521) % 65521)
def cs2 (bs : List Int) : Int × Int := bs.foldl csP (1, 0)
def csumI (bs : List Int) : List Int := fixedI ((cs2 bs).2 * 65536 + (cs2 bs).1) 4
def natI (n : Nat) : List Int := if n < 128 then [(n : Int)] else (128 + (n : Int) % 128) :: natI (n / 128)
theorem natI_len : ∀ (k n : Nat), n < 128 ^ (k + 1) → (natI n).length ≤ k + 1
  | 0, n, h => by
    rw [natI, if_pos (by simpa using h)]
    exact Nat.le_refl _
  | k + 1, n, h => by
    rw [natI]
    split
    · simp
    · have := natI_len k (n / 128) (by
        rw [Nat.pow_succ] at h
        exact Nat.div_lt_of_lt_mul (by rw [Nat.mul_comm]; exact h))
      simp only [List.length_cons]
      omega
/-- what natural_from finds: the number, the place behind it -/
def nf : List Int → Int → Int → Nat → Option (Int × Nat)
  | [], _, _, _ => none
  | x :: xs, f, w, k => if x < 128 then (if x = 0 ∧ 128 < w * 128 then none else some (f + x % 128 * w, k + 1)) else nf xs (f + x % 128 * w) (w * 128) (k + 1)
section
variable {K : PySem.W.Frag} {W : WX}
def t_fixed (K : PySem.W.Frag) (W : WX) : TS :=
  (tSeq (tAsg (tLst tNil) (gName 2))
  (tSeq (tFor (iRng1 (tCons (tVar 1) tNil)) (gName 3) (tSeq (tDrop (tBM K "list" rAppend (tVar 2) (tCons (tOp rModG (tVar 0) (tC (.int 256))) tNil)))
  (tAug 0 (tC (.int 256)) rIDivG)))
  (tRet (tCB (rTupO K) (tCons (tRevL K (tVar 2)) tNil)))))
abbrev fxA : Int × Nat → List D := fun i => [.int i.1, .int i.2]
abbrev spFx (K : PySem.W.Frag) : Sp := spI K fxA (fun i => i.2 ≤ 1000) fun i => .ret (bD (fixedI i.1 i.2))
theorem fixed_xs (i : Int × Nat) (h : i.2 ≤ 1000) : Xs K W (t_fixed K W) (argsE ["number", "many", "found", "step"] (fxA i)) (fnR (.ret (bD (fixedI i.1 i.2)))) := by
  obtain ⟨n, m⟩ := i
  replace h : m ≤ 1000 := h
  refine xs_seq (xs_new0 ?_)
  refine then_nx ?_
  refine xs_seq (xs1_for (items := rngD 0 1 m) (ew_rng1 ((ev_var (d := .int m) rfl).imp fun d e => ⟨m, e, by omega, by omega, by rw [Int.toNat_natCast]⟩)) (fun j Δ' => ∃ z, Δ' = [.dat (.int (shr j n)), .dat (.int m), .own ((low j n).map D.int), z]) ⟨_, rfl⟩ ?_ ?_)
  · rintro j d Δ' hd ⟨z, rfl⟩
    obtain ⟨hj, rfl⟩ := rngD_of hd
    refine ⟨[3], _, tg_name, ?_⟩
    refine xs_seq (xs1_app rfl (szlt (by rw [List.length_map, low_len]; omega)) (ev1_op (ev_var (d := .int (shr j n)) rfl) ev_int (od_mod (by decide))) ?_)
    refine then_nx ?_
    refine xs1_aug (x := .int (shr j n)) rfl ev_int (idi (cdivw (by decide) (by decide))) ?_
    refine ⟨.dat (.int (0 + (j : Nat) * 1)), ?_⟩
    rw [low_s, List.map_append]
    rfl
  · rintro Δ' ⟨z, rfl⟩
    rw [rngD_len]
    refine then_nx ?_
    refine xs_freeze (i := 2) rfl (xs1_ret (ev1_cb (ea1_cons (ev1_revL (ev_var (d := .lst ((low m n).map D.int)) rfl)) ea_nil) cd_tupL) ?_)
    show _ = _
    rw [← List.map_reverse]
    rfl
def t_number_from (K : PySem.W.Frag) (W : WX) : TS :=
  (tSeq (tAsg (tC (.int 0)) (gName 1))
  (tSeq (tFor (iSeq K (tVar 0)) (gName 2) (tAsg (tOp (rAddG K) (tOp (rMulG K) (tVar 1) (tC (.int 256))) (tVar 2)) (gName 1)))
  (tRet (tVar 1))))
abbrev spNu (K : PySem.W.Frag) : Sp := spI K (fun bs : List Int => [bD bs]) (fun _ => True) fun bs => .ret (.int (numI bs))
theorem number_xs (bs : List Int) : Xs K W (t_number_from K W) (argsE ["data", "found", "one"] [bD bs]) (fnR (.ret (.int (numI bs)))) := by
  refine xs_seq (xs1_asg ev_int ?_)
  refine then_nx ?_
  refine xs_seq (xs1_for (items := bs.map D.int) (ew_inr (ew_inl (ew_tup ((ev_var (d := bD bs) rfl).imp fun d e => ⟨_, e, rfl⟩)))) (fun i Δ' => ∃ z, Δ' = [.dat (bD bs), .dat (.int (numI (bs.take i))), z]) ⟨_, rfl⟩ ?_ ?_)
  · rintro i d Δ' hd ⟨z, rfl⟩
    obtain ⟨x, hx, rfl⟩ := of_map_get hd
    refine ⟨[2], _, tg_name, ?_⟩
    refine xs1_asg (ev1_op (ev1_op (ev_var (d := .int (numI (bs.take i))) rfl) ev_int (od_mul (.inr ⟨by decide, by decide⟩))) (ev_var (d := .int x) rfl) od_add) ⟨.dat (.int x), ?_⟩
    rw [take_at hx]
    unfold numI
    rw [List.foldl_append]
    rfl
  · rintro Δ' ⟨z, rfl⟩
    refine xs1_ret (ev_var rfl) ?_
    rw [List.length_map, List.take_length]
    rfl
def t_checksum (K : PySem.W.Frag) (W : WX) (sp_fixed : Sp) : TS :=
  (tSeq (tAsg (tTup (tCons (tC (.int 1)) (tCons (tC (.int 0)) tNil))) (gTup K 2 (gCons (gName 1) (gCons (gName 2) gNil))))
  (tSeq (tFor (iSeq K (tVar 0)) (gName 3) (tSeq (tAsg (tOp rModG (tOp (rAddG K) (tVar 1) (tVar 3)) (tC (.int 65521))) (gName 1))
  (tAsg (tOp rModG (tOp (rAddG K) (tVar 2) (tVar 1)) (tC (.int 65521))) (gName 2))))
  (tRet (tCallS sp_fixed (WE W) (tCons (tOp (rAddG K) (tOp (rMulG K) (tVar 2) (tC (.int 65536))) (tVar 1)) (tCons (tC (.int 4)) tNil))))))
abbrev spCs (K : PySem.W.Frag) : Sp := spI K (fun bs : List Int => [bD bs]) (fun _ => True) fun bs => .ret (bD (csumI bs))
theorem cs2_s {bs : List Int} {i : Nat} {x : Int} (h : bs[i]? = some x) : cs2 (bs.take (i + 1)) = csP (cs2 (bs.take i)) x := by
  rw [take_at h]
  unfold cs2
  rw [List.foldl_append]
  rfl
/-- the two sums, over three ways to write them -/
theorem sums_loop {bs : List Int} {post : Out → Prop} {Δ : En} {u : TS} {n : Nat} (e : Δ = [.dat (bD bs), .dat (.int 1), .dat (.int 0)] ++ List.replicate n .no) (hn : 0 < n)
    (hk : ∀ z, Xs K W u ([.dat (bD bs), .dat (.int (cs2 bs).1), .dat (.int (cs2 bs).2), z] ++ List.replicate (n - 1) .no) post) :
    Xs K W (tSeq (tFor (iSeq K (tVar 0)) (gName 3) (tSeq (tAsg (tOp rModG (tOp (rAddG K) (tVar 1) (tVar 3)) (tC (.int 65521))) (gName 1)) (tAsg (tOp rModG (tOp (rAddG K) (tVar 2) (tVar 1)) (tC (.int 65521))) (gName 2)))) u) Δ post := by
  subst e
  obtain ⟨n, rfl⟩ : ∃ k, n = k + 1 := ⟨n - 1, by omega⟩
  refine xs_seq (xs1_for (items := bs.map D.int) (ew_inr (ew_inl (ew_tup ((ev_var (d := bD bs) rfl).imp fun d e => ⟨_, e, rfl⟩)))) (fun i Δ' => ∃ z, Δ' = [.dat (bD bs), .dat (.int (cs2 (bs.take i)).1), .dat (.int (cs2 (bs.take i)).2), z] ++ List.replicate n .no) ⟨.no, rfl⟩ ?_ ?_)
  · rintro i d Δ' hd ⟨z, rfl⟩
    obtain ⟨x, hx, rfl⟩ := of_map_get hd
    refine ⟨[3], _, tg_name, ?_⟩
    refine xs_seq (xs1_asg (ev1_op (ev1_op (ev_var (d := .int (cs2 (bs.take i)).1) rfl) (ev_var (d := .int x) rfl) od_add) ev_int (od_mod (by decide))) ?_)
    refine then_nx ?_
    refine xs1_asg (ev1_op (ev1_op (ev_var (d := .int (cs2 (bs.take i)).2) rfl) (ev_var (d := .int (((cs2 (bs.take i)).1 + x) % 65521)) rfl) od_add) ev_int (od_mod (by decide))) ⟨.dat (.int x), ?_⟩
    rw [cs2_s hx]
    rfl
  · rintro Δ' ⟨z, rfl⟩
    rw [List.length_map, List.take_length]
    exact hk z
theorem sums_loopI {bs : List Int} {post : Out → Prop} {Δ : En} {u : TS} {n : Nat} (e : Δ = [.dat (bD bs), .dat (.int 1), .dat (.int 0)] ++ List.replicate n .no) (hn : 0 < n)
    (hk : ∀ z, Xs K W u ([.dat (bD bs), .dat (.int (cs2 bs).1), .dat (.int (cs2 bs).2), z] ++ List.replicate (n - 1) .no) post) :
    Xs K W (tSeq (tFor (iSeq K (tVar 0)) (gName 3) (tSeq (tAsg (tOp rModG (tCB rInt1 (tCons (tOp (rAddG K) (tVar 1) (tVar 3)) tNil)) (tC (.int 65521))) (gName 1)) (tAsg (tOp rModG (tCB rInt1 (tCons (tOp (rAddG K) (tVar 2) (tVar 1)) tNil)) (tC (.int 65521))) (gName 2)))) u) Δ post := by
  subst e
  obtain ⟨n, rfl⟩ : ∃ k, n = k + 1 := ⟨n - 1, by omega⟩
  refine xs_seq (xs1_for (items := bs.map D.int) (ew_inr (ew_inl (ew_tup ((ev_var (d := bD bs) rfl).imp fun d e => ⟨_, e, rfl⟩)))) (fun i Δ' => ∃ z, Δ' = [.dat (bD bs), .dat (.int (cs2 (bs.take i)).1), .dat (.int (cs2 (bs.take i)).2), z] ++ List.replicate n .no) ⟨.no, rfl⟩ ?_ ?_)
  · rintro i d Δ' hd ⟨z, rfl⟩
    obtain ⟨x, hx, rfl⟩ := of_map_get hd
    refine ⟨[3], _, tg_name, ?_⟩
    refine xs_seq (xs1_asg (ev1_op (ev1_cb (ea1_cons (ev1_op (ev_var (d := .int (cs2 (bs.take i)).1) rfl) (ev_var (d := .int x) rfl) od_add) ea_nil) cd_intI) ev_int (od_mod (by decide))) ?_)
    refine then_nx ?_
    refine xs1_asg (ev1_op (ev1_cb (ea1_cons (ev1_op (ev_var (d := .int (cs2 (bs.take i)).2) rfl) (ev_var (d := .int (((cs2 (bs.take i)).1 + x) % 65521)) rfl) od_add) ea_nil) cd_intI) ev_int (od_mod (by decide))) ⟨.dat (.int x), ?_⟩
    rw [cs2_s hx]
    rfl
  · rintro Δ' ⟨z, rfl⟩
    rw [List.length_map, List.take_length]
    exact hk z
theorem checksum_xs (bs : List Int) : Xs K W (t_checksum K W (spFx K)) (argsE ["data", "first", "second", "one"] [bD bs]) (fnR (.ret (bD (csumI bs)))) := by
  refine xs_seq (xs1_asgT (ev1_tup (ea1_cons ev_int (ea1_cons ev_int ea_nil))) tg2 ?_)
  refine then_nx (sums_loop (n := 1) rfl (by decide) fun z => ?_)
  exact xs1_ret (ev1_callI ((cs2 bs).2 * 65536 + (cs2 bs).1, 4) (ea1_cons (ev1_op (ev1_op (ev_var rfl) ev_int (od_mul (.inr ⟨by decide, by decide⟩))) (ev_var rfl) od_add) (ea1_cons ev_int ea_nil)) (show (4 : Nat) ≤ 1000 by decide) rfl) rfl
def t_natural (K : PySem.W.Frag) (W : WX) : TS :=
  (tSeq (tAsg (tLst tNil) (gName 1))
  (tSeq (tWhile (tTest (tOp rGeG (tVar 0) (tC (.int 128)))) (tSeq (tDrop (tBM K "list" rAppend (tVar 1) (tCons (tOp (rAddG K) (tC (.int 128)) (tOp rModG (tVar 0) (tC (.int 128)))) tNil)))
  (tAug 0 (tC (.int 128)) rIDivG)))
  (tRet (tOp (rAddG K) (tCB (rTupO K) (tCons (tVar 1) tNil)) (tTup (tCons (tVar 0) tNil))))))
abbrev spNa (K : PySem.W.Frag) : Sp := spI K (fun n : Nat => [.int n]) (fun n => n < 2 ^ 64) fun n => .ret (bD (natI n))
theorem natI_le {n : Nat} (h : n < 2 ^ 64) : (natI n).length ≤ 10 := natI_len 9 n (Nat.lt_of_lt_of_le h (by decide))
theorem natural_xs (n : Nat) (h : n < 2 ^ 64) : Xs K W (t_natural K W) (argsE ["number", "found"] [.int n]) (fnR (.ret (bD (natI n)))) := by
  refine xs_seq (xs_new0 ?_)
  refine then_nx ?_
  refine xs_seq (xs_while (fun m Δ' => ∃ acc : List Int, Δ' = [.dat (.int m), .own (acc.map D.int)] ∧ natI n = acc ++ natI m) n ⟨[], rfl, rfl⟩ ?_)
  rintro m Δ' ⟨acc, rfl, hm⟩
  have hl : acc.length ≤ 10 := by
    have := natI_le h
    rw [hm, List.length_append] at this
    omega
  refine ⟨(· = decide ((128 : Int) ≤ m)), fun _ => False, et1_val (ev1_op (ev_var (d := .int m) rfl) ev_int od_ge), fun _ z => z.elim, fun hb => ?_, fun hb => ?_⟩
  · have hc : 128 ≤ m := by have := of_decide_eq_true hb.symm; omega
    refine xs_seq (xs1_app rfl (szlt (by rw [List.length_map]; omega)) (ev1_op ev_int (ev1_op (ev_var (d := .int m) rfl) ev_int (od_mod (by decide))) od_add) ?_)
    refine then_nx ?_
    refine xs1_aug (x := .int m) rfl ev_int (idi (cdivw (by decide) (by decide))) ?_
    refine ⟨m / 128, by omega, acc ++ [128 + (m : Int) % 128], ?_, ?_⟩
    · rw [List.map_append, Int.natCast_ediv]
      rfl
    · rw [hm, natI, if_neg (by omega)]
      simp
  · have hc : m < 128 := by have := of_decide_eq_false hb.symm; omega
    refine then_nx ?_
    refine xs1_ret (ev1_op (ev_tup_own (ds := acc.map D.int) rfl) (ev1_tup (ea1_cons (ev_var (d := .int m) rfl) ea_nil)) (od_catT (szl (by rw [List.length_map]; simp; omega)))) ?_
    show _ = _
    rw [hm, natI, if_pos hc, bD, List.map_append]
    rfl
def t_natural_from (K : PySem.W.Frag) (W : WX) : TS :=
  (tSeq (tAsg (tTup (tCons (tC (.int 0)) (tCons (tC (.int 1)) tNil))) (gTup K 2 (gCons (gName 2) (gCons (gName 3) gNil))))
  (tWhile (tB (tC (.bl true))) (tSeq (tIfS (tTest (tOp rGeG (tVar 1) (tCB (rLenC K) (tCons (tVar 0) tNil)))) (fun _ σ H => W (.ref (He.ga K "RecordFault")) none σ H) tNext)
  (tSeq (tAsg (tOp (rIx K) (tVar 0) (tVar 1)) (gName 4))
  (tSeq (tAug 1 (tC (.int 1)) (rIAddA K))
  (tSeq (tAug 2 (tOp (rMulG K) (tOp rModG (tVar 4) (tC (.int 128))) (tVar 3)) (rIAddA K))
  (tSeq (tAug 3 (tC (.int 128)) rIMulG)
  (tIfS (tTest (tOp (rLtG K) (tVar 4) (tC (.int 128)))) (tSeq (tIfS (tAnd (tTest (tOp (rEqG K) (tVar 4) (tC (.int 0)))) (tTest (tOp rGtG (tVar 3) (tC (.int 128))))) (fun _ σ H => W (.ref (He.ga K "RecordFault")) none σ H) tNext)
  (tRet (tTup (tCons (tVar 2) (tCons (tVar 1) tNil))))) tNext))))))))
abbrev nfA : List Int × Nat → List D := fun i => [bD i.1, .int i.2]
def nfD (p : Int × Nat) : D := .tup [.int p.1, .int p.2]
def nfR (C : Addr) (i : List Int × Nat) : Res := match nf (i.1.drop i.2) 0 1 i.2 with
  | some p => .ret (nfD p)
  | none => .exc C
abbrev spNf (K : PySem.W.Frag) : Sp := spI K nfA (fun i => i.2 ≤ i.1.length) (nfR (He.ga K "RecordFault"))
theorem small128 (x : Int) : -(2 ^ 64) < x % 128 ∧ x % 128 < 2 ^ 64 := by
  have h1 := Int.emod_nonneg x (show (128 : Int) ≠ 0 by decide)
  have h2 := Int.emod_lt_of_pos x (show (0 : Int) < 128 by decide)
  omega
theorem nfrom_xs (i : List Int × Nat) (h : i.2 ≤ i.1.length) : Xs K W (t_natural_from K W) (argsE ["data", "place", "found", "weight", "one"] (nfA i)) (fnR (nfR (He.ga K "RecordFault") i)) := by
  obtain ⟨bs, p0⟩ := i
  replace h : p0 ≤ bs.length := h
  refine xs_seq (xs1_asgT (ev1_tup (ea1_cons ev_int (ea1_cons ev_int ea_nil))) tg2 ?_)
  refine then_nx ?_
  refine xs_while (fun m Δ' => ∃ (f w : Int) (p : Nat) (o : Sl), Δ' = [.dat (bD bs), .dat (.int p), .dat (.int f), .dat (.int w), o] ∧ nf (bs.drop p0) 0 1 p0 = nf (bs.drop p) f w p ∧ p ≤ bs.length ∧ m = bs.length - p) _ ⟨0, 1, p0, _, rfl, rfl, h, rfl⟩ ?_
  rintro m Δ' ⟨f, w, p, o, rfl, hn, hp, rfl⟩
  refine ⟨(· = true), fun _ => False, et1_B ev_bl, fun _ z => z.elim, fun _ => ?_, fun z => nomatch z⟩
  have hlen : ∀ {Δ : En}, Δ[0]? = some (Sl.dat (bD bs)) → Ev K (WE W) (tCB (rLenC K) (tCons (tVar 0) tNil)) Δ (· = .int (bs.length : Nat)) fun _ => False := fun h => ev_is (ev1_cb (ea1_cons (ev_var h) ea_nil) cd_lenT) (by rw [List.length_map])
  refine xs_seq (xs1_if (et1_val (ev1_op (ev_var (d := .int p) rfl) (hlen rfl) od_ge)) (fun hb => ?_) fun hb => xs_next ?_)
  · have hb' : bs.length ≤ p := by have := of_decide_eq_true hb; omega
    refine xs_raise ?_
    show nfR _ _ = _
    unfold nfR
    show (match nf (bs.drop p0) 0 1 p0 with | some p => _ | none => _) = _
    rw [hn, List.drop_of_length_le hb']
    rfl
  · have hb' : p < bs.length := by have := of_decide_eq_false hb; omega
    obtain ⟨x, hx⟩ := get_ex hb'
    rw [drop_at hx] at hn
    refine then_nx ?_
    refine xs_seq (xs1_asg (ev1_op (ev_var (d := bD bs) rfl) (ev_var (d := .int p) rfl) (od_ixT (atI_nat (map_get hx)))) ?_)
    refine then_nx (xs_seq (xs1_aug (x := .int p) rfl ev_int iadA ?_))
    refine then_nx (xs_seq (xs1_aug (x := .int f) rfl (ev1_op (ev1_op (ev_var (d := .int x) rfl) ev_int (od_mod (by decide))) (ev_var (d := .int w) rfl) (od_mul (.inl (small128 x)))) iadA ?_))
    refine then_nx (xs_seq (xs1_aug (x := .int w) rfl ev_int (imu (.inr ⟨by decide, by decide⟩)) ?_))
    refine then_nx ?_
    refine xs1_if (et1_val (ev1_op (ev_var (d := .int x) rfl) ev_int od_lt)) (fun hc => ?_) fun hc => xs_next ?_
    · have hx1 : x < 128 := of_decide_eq_true hc
      have hn2 : nf (bs.drop p0) 0 1 p0 = if x = 0 ∧ 128 < w * 128 then none else some (f + x % 128 * w, p + 1) := by rw [hn, nf, if_pos hx1]
      refine xs_seq (xs1_if (et1_and (et1_val (ev1_op (ev_var (d := .int x) rfl) ev_int od_eqI)) fun _ => et1_val (ev1_op (ev_var (d := .int (w * 128)) rfl) ev_int od_gt)) (fun hb2 => ?_) fun hb2 => xs_next ?_)
      · obtain ⟨b1, b2⟩ := Bool.and_eq_true_iff.mp hb2
        refine xs_raise ?_
        show nfR _ _ = _
        unfold nfR
        show (match nf (bs.drop p0) 0 1 p0 with | some p => _ | none => _) = _
        rw [hn2, if_pos ⟨of_decide_eq_true b1, of_decide_eq_true b2⟩]
      · have hb3 : ¬ (x = 0 ∧ 128 < w * 128) := fun ⟨a, b⟩ => by
          rw [decide_eq_true a, decide_eq_true b] at hb2
          cases hb2
        refine then_nx ?_
        refine xs1_ret (ev1_tup (ea1_cons (ev_var (d := .int (f + x % 128 * w)) rfl) (ea1_cons (ev_var (d := .int (p + 1)) rfl) ea_nil))) ?_
        show nfR _ _ = _
        unfold nfR
        show (match nf (bs.drop p0) 0 1 p0 with | some p => _ | none => _) = _
        rw [hn2, if_neg hb3]
        rfl
    · have hx1 : ¬ x < 128 := of_decide_eq_false hc
      refine ⟨bs.length - (p + 1), by omega, _, _, p + 1, _, rfl, ?_, hb', rfl⟩
      rw [hn, nf, if_neg hx1]
end
end Ts


/-! Rolls of the dice; rules for pairs with a list of one's own; a small tactic for expressions whose values are known. -/
namespace Ts
variable [Tt]
open PySem PySem.Spec PyProof.Rows L2
section
variable {K : PySem.W.Frag} {E : L2.St → XK} {W : WX} {Δ : En} {X : Addr → Prop} {ta te tf : TE} {post : Out → Prop}
theorem ev_roll {i : Nat} {n : Int} (hi : Δ[i]? = some Sl.dice) (h : Ev K E ta Δ (· = .int n) X) (h0 : 0 < n := by decide) (h1 : n < 2 ^ 90 := by decide) : Ev K E (tCallS (spRoll K) E (tCons (tVar i) (tCons ta tNil))) Δ (fun d => ∃ i : Int, d = .int i ∧ 0 ≤ i ∧ i < n) X :=
  ev_callq hi (ea1_cons h ea_nil) (fun ds e => ⟨n, e, h0, h1⟩) (fun ds d e ⟨n', i, e', r, a, b⟩ => by
    rw [e] at e'
    injection e' with e'
    injection e' with e'
    subst e'
    injection r with r
    exact ⟨i, r, a, b⟩) fun ds C e ⟨_, _, _, z, _⟩ => nomatch z
/-- a, b = (x, [..]), the list one's own -/
theorem xs_unp {i j : Nat} {tr : TA} {d : D} {ds : List D} (hij : j ≠ i) (h : Ev K (WE W) te Δ (· = d) fun _ => False) (h2 : Ea K (WE W) tr Δ (· = ds) fun _ => False) (hl : ds.length ≤ 1000000) (k : post (.nx ((Δ.set j (.own ds)).set i (.dat d)))) :
    Xs K W (tAsg (tTup (tCons te (tCons (tLst tr) tNil))) (gTup K 2 (gCons (gName i) (gCons (gName j) gNil)))) Δ post := fun q G0 H0 G H σ Te s k1 k2 k3 k4 k5 => by
  refine h q G0 H0 G H σ _ s (fun v d1 G1 H1 g1 r1 p1 => ?_) fun _ _ _ _ z => z.elim
  refine h2 q G0 H0 G1 H1 σ _ (s.go g1) (fun vs ds1 G2 H2 g2 r2 p2 => ?_) fun _ _ _ _ z => z.elim
  subst p1; subst p2
  have s2 := s.go (s.tr g1 g2)
  refine ⟨by rw [r2.length]; exact szl hl, fun p hp => ⟨szl (by simp), fun u hu => ?_⟩⟩
  have s3 := s2.newMut (i := j) hp r2
  have gj : Gr none G2 (upd H2 p (.lst vs)) G2 (upd (upd H2 p (.lst vs)) u (.tup [v, .ref p])) :=
    ⟨Exx.refl G2, fun _ _ e => .inl e, fun a o e nt => by rw [upd_ne (ne_of_none (s3.sub a o e nt) hu)]; exact s3.sub a o e nt, fun a o _ e _ => by rw [upd_ne (ne_of_none e hu)]; exact e, Tbd.new hu, fun _ z => nomatch z⟩
  have s4 := (s3.go gj.any).set (i := i) (r1.ex g2.ex)
  refine ⟨u, [v, .ref p], rfl, .inl (.inl upd_same), rfl, _, _, rfl, _, _, rfl, rfl, ?_⟩
  have e : (σ.set i (some v)).set j (some (V.ref p)) = (σ.set j (some (V.ref p))).set i (some v) := (List.set_comm _ _ hij).symm
  rw [e]
  exact k1 _ _ G2 _ (s.tr g1 g2).ex s4 k
/-- a, b, c = x, [], y, the list one's own -/
theorem xs1_par3m {i j l : Nat} (hij : i ≠ j) {d e : D} (h : Ev K (WE W) te Δ (· = d) fun _ => False) (h' : Ev K (WE W) tf Δ (· = e) fun _ => False) (k : post (.nx (((Δ.set j (.own [])).set i (.dat d)).set l (.dat e)))) :
    Xs K W (tPar3 i j l (tCons te (tCons (tLst tNil) (tCons tf tNil)))) Δ post := fun q G0 H0 G H σ T s k1 k2 k3 k4 k5 => by
  refine h q G0 H0 G H σ _ s (fun v d' G1 H1 g1 r1 p1 => ?_) fun _ _ _ _ z => z.elim
  have s1 := s.go g1
  refine ⟨Nat.zero_le _, fun p hp => ?_⟩
  have g0 : Gr none G1 H1 G1 (upd H1 p (.lst [])) :=
    ⟨Exx.refl G1, fun _ _ e => .inl e, fun a o e nt => by rw [upd_ne (ne_of_none (s1.sub a o e nt) hp)]; exact s1.sub a o e nt, fun a o _ e _ => by rw [upd_ne (ne_of_none e hp)]; exact e, Tbd.new hp, fun _ z => nomatch z⟩
  have s0 := s1.go g0.any
  have hGp : Nt G1 p := fun o c => Classical.byContradiction fun n => by
    rw [s1.sub p o c (fun ps z => n ⟨ps, z⟩)] at hp; cases hp
  have hH0 : Nt H0 p := s1.gr.live s1.hq (.of hp)
  have hqp : q ≠ some p := fun c => by
    obtain ⟨x, y, z, e⟩ := s1.dq p c
    rw [hp] at e; cases e
  refine h' q G0 H0 G1 _ σ _ s0 (fun u e' G2 H2 g2 r2 p2 => ?_) fun _ _ _ _ z => z.elim
  subst p1; subst p2
  have s2 := s0.go g2
  have hp2 : H2 p = some (.lst []) := g2.kl hqp upd_same
  have hG2 : Nt G2 p := g2.un hGp upd_same
  have other : ∀ (l : Nat) (as : Mu), Δ[l]? = some (Sl.mu as) → σ[l]? ≠ some (some (V.ref p)) := fun l as e z => by
    obtain ⟨p3, vs3, a1, a2, _⟩ := s1.rs.mu l as e
    rw [a1] at z
    cases z
    rw [hp] at a2; cases a2
  refine ⟨_, _, _, rfl, ?_⟩
  have e1 : ((σ.set i (some v)).set j (some (V.ref p))).set l (some u) = ((σ.set j (some (V.ref p))).set i (some v)).set l (some u) := by rw [List.set_comm _ _ hij]
  rw [e1]
  exact k1 _ _ G2 H2 (g1.ex.trans g2.ex) (((s2.ownAt (i := j) hp2 .nil hG2 hH0 hqp other).set (r1.ex g2.ex)).set r2) k
/-- the negative of an int -/
theorem ev_neg {i : Int} (h : Ev K E te Δ (· = .int i) X) : Ev K E (tUn (rU fun i => .int (-i)) te) Δ (· = .int (-i)) X := ev1_un h fun G H v Q e r k => by
  cases r
  exact ⟨i, rfl, ret1 e (.int _) k⟩
theorem ev_tupT {ds : List D} (h : Ev K E te Δ (· = .tup ds) X) : Ev K E (tCB (rTupO K) (tCons te tNil)) Δ (· = .tup ds) X := ev1_cb (ea1_cons h ea_nil) cd_tupT
theorem ev_tupL {ds : List D} (h : Ev K E te Δ (· = .lst ds) X) : Ev K E (tCB (rTupO K) (tCons te tNil)) Δ (· = .tup ds) X := ev1_cb (ea1_cons h ea_nil) cd_tupL
theorem ev_lenT {ds : List D} (h : Ev K E te Δ (· = .tup ds) X) : Ev K E (tCB (rLenC K) (tCons te tNil)) Δ (· = .int ds.length) X := ev1_cb (ea1_cons h ea_nil) cd_lenT
theorem ev_lenL {ds : List D} (h : Ev K E te Δ (· = .lst ds) X) : Ev K E (tCB (rLenC K) (tCons te tNil)) Δ (· = .int ds.length) X := ev1_cb (ea1_cons h ea_nil) cd_lenL
/-! bytes -/
theorem ev_lenB {bs : List Int} (h : Ev K E te Δ (· = bD bs) X) : Ev K E (tCB (rLenC K) (tCons te tNil)) Δ (· = .int bs.length) X := ev_is (ev_lenT h) (by rw [List.length_map])
theorem cutB {bs : List Int} {lo hi : Option Int} {a n : Nat} (h1 : HT.sIx bs.length 0 lo = a) (h2 : HT.sIx bs.length bs.length hi = a + n) : D.tup (cutD (bs.map D.int) lo hi) = bD ((bs.drop a).take n) := by
  unfold cutD
  rw [List.length_map, h1, h2, Nat.add_sub_cancel_left, ← List.map_drop, ← List.map_take]
  rfl
theorem cutI {bs : List Int} {a b : Nat} : D.tup (cutD (bs.map D.int) (some (a : Int)) (some (b : Int))) = bD ((bs.take b).drop a) := by
  rw [cutD_nn, ← List.map_take, ← List.map_drop]; rfl
theorem cutI_from {bs : List Int} {a : Nat} : D.tup (cutD (bs.map D.int) (some (a : Int)) none) = bD (bs.drop a) := by
  rw [cutD_from, ← List.map_drop]; rfl
theorem cutI_to {bs : List Int} {b : Nat} : D.tup (cutD (bs.map D.int) none (some (b : Int))) = bD (bs.take b) := by
  rw [cutD_to, ← List.map_take]; rfl
theorem sIx_neg {n m k : Nat} (h : 0 < k) (h2 : k ≤ n) : HT.sIx n m (some (-(k : Int))) = n - k := by
  unfold HT.sIx
  simp only
  first
    | (rw [if_pos (by omega)]; omega)
    | (split <;> omega)
    | omega
/-- data[lo:hi] of bytes -/
theorem ev_cutI {tl th : TO} {bs cs : List Int} {lo hi : Option Int} (h : Ev K E te Δ (· = bD bs) X) (h1 : Eo K E tl Δ (· = lo) X) (h2 : Eo K E th Δ (· = hi) X) (e : D.tup (cutD (bs.map D.int) lo hi) = bD cs) : Ev K E (tSl (rSlG K) te tl th) Δ (· = bD cs) X :=
  ev_is (ev1_sl h h1 h2 sd_tup) e
theorem ev_catI {bs cs : List Int} (h : Ev K E ta Δ (· = bD bs) X) (h2 : Ev K E te Δ (· = bD cs) X) (hz : bs.length + cs.length ≤ 1000000) : Ev K E (tOp (rAddG K) ta te) Δ (· = bD (bs ++ cs)) X :=
  ev_is (ev1_op h h2 (od_catT (by rw [List.length_map, List.length_map]; exact szl hz))) bD_app
end
end Ts


/-! Generator expressions whose element is quiet (no calls of defs), over a tuple, one name: any, all. The tables' code objects stay told (LamX.Tabs). -/
namespace Ts
open PySem PySem.Spec PyProof.Rows L2
/-- the scope of a generator expression that captures nothing -/
def genSB (scope : Scope) (x : Str) : Bool :=
  decide (scope.kind = .function) && !scope.isCoroutine && (scope.names.all fun y => !decide (y.2 = .cell) && !decide (y.2 = .free)) && decide (scope.names.lookup (".0" : Str) = some NameKind.local) && decide (scope.names.lookup x = some .local)
theorem genS_by {env : Env} {scope : Scope} {x : Str} (h : genSB scope x = true) : GxR.GenS env scope x := by
  unfold genSB at h
  simp only [Bool.and_eq_true, Bool.not_eq_true', decide_eq_true_eq, decide_eq_false_iff_not, List.all_eq_true] at h
  obtain ⟨⟨⟨⟨h1, h2⟩, h3⟩, h4⟩, h5⟩ := h
  exact ⟨h1, h2, fun y hy => (h3 y hy).1, h4, h5, fun y hy e => absurd e (h3 y hy).2⟩
/-- the element at a value of v: a value of f v; nothing is touched -/
def EltV (X : Cx) (scope : Scope) (x : Str) (elt : Expr) (Pv : V → Prop) (f : V → V) : Prop :=
  ∀ (cenv : Env) (A' : Around) (E' : Value → Shared → Prop) (v : V) (u : Value) (s₂ : Shared) (m₂ : Str → Option Value), cenv.scope = scope → Pv v → RelV v u → s₂.heap.Ns cenv.locals m₂ → m₂ x = some u →
    wpAny (model X.prog X.w) A' (eval elt cenv) (fun y s₃ => RelV (f v) y ∧ Keeps s₂ s₃) E' s₂
/-- x != n, x an int -/
theorem elt_neI {X : Cx} {scope : Scope} {x : Str} {n : Int} {j : Nat} {p1 p2 p3 : Pos} (hk : scope.kind = .function) (hl : scope.names.lookup x = some .local) (hd : (x == ("__debug__" : Str)) = false := by decide) :
    EltV X scope x (.Compare (.Name x p1) [.NotEq] [.Constant (.int n) j p2] p3) (fun v => ∃ i, v = .int i) (fun v => .bl (decide (v ≠ .int n))) := by
  intro cenv A' E' v u t m₂ hs ⟨i, hv⟩ r hn hm
  subst hv
  obtain ⟨k, rfl⟩ : ∃ k, u = .int i k := r
  refine wpAny_Compare1 ?_
  refine wpAny_Name (wpAny_loadName_local (by rw [hs]; exact hk) (show cenv.scope.names.lookup x = some .local by rw [hs]; exact hl) hn hm ?_) hd
  refine wpAny_Constant_int ?_
  exact PySem.P.ne_int ⟨by show _ = _; congr 1; rw [Bool.eq_iff_iff]; simp, GxR.keeps_refl _⟩
section
variable {X : Cx} {pins : List (Addr × Obj)} {σ : L2.St} {H : Hp} {s : Shared}
/-- the generator g over the values xs, ready to be walked in the state s5; H1: what was held before -/
def ReadyV (T : Tb) (X : Cx) (pins : List (Addr × Obj)) (σ : L2.St) (H1 : Hp) (xs : List V) (f : V → V) (g : Addr) (s5 : Shared) : Prop :=
  ∃ (fp wr : List Addr) (G : Array GenState → Array GenState → Prop) (F : Nat → Value → Prop) (St : Nat → Shared → Prop),
    WalksS X.prog X.w X.A.in4 g fp wr G xs.length F St ∧ St 0 s5 ∧ (∀ b ∈ fp, b < s5.heap.objs.size) ∧ g ∈ fp ∧ (∀ i s9, St i s9 → s9.TypeIs (.ref g) "generator") ∧
    (∀ j y, F j y → ∃ v, xs[j]? = some v ∧ RelV (f v) y) ∧
    ∀ s', Moved wr G s5 s' → ∃ H2, LamX.ExtN H1 H2 ∧ LamX.Tabs T H2 ∧ Inv X pins σ H2 s'
/-- the table of the running def, its code objects told -/
theorem gen_tupV {T : Tb} {c P : Addr} {elt iter : Expr} {x : Str} {px gpos : Pos} {scope : Scope} {Pv : V → Prop} {f : V → V} {te : TE} {k : Nat} {Q' : Value → Shared → Prop} {R : List V → Hp → Prop}
    (hr : Room k X.A) (TB : LamX.TabB X.base X.mg c P) (hcode : X.env.code = .ref c) (hmT : (P, X.env.qual ++ "<genexpr>") ∈ T) (hu : ∀ p ∈ T, p.1 = P → p.2 = X.env.qual ++ "<genexpr>")
    (S : GxR.GenS X.env scope x) (hi : PE X iter te) (hel : EltV X scope x elt Pv f)
    (hs : ∀ v, genFold iter X.env v = pure v) (I : Inv X pins σ H s) (h : te σ H fun v H1 => ∃ (yl : Addr) (xs : List V), v = .ref yl ∧ SqT X.K H1 yl xs ∧ (∀ a ∈ xs, Pv a) ∧ LamX.Tabs T H1 ∧ R xs H1)
    (hQ : ∀ xs H1 g s5, R xs H1 → ReadyV T X pins σ H1 xs f g s5 → Q' (.ref g) s5) :
    wpAny (model X.prog X.w) X.A (eval (.GeneratorExp elt [⟨.Name x px, iter, [], 0⟩] scope gpos) X.env) Q' X.xe s := by
  refine wpAny_GeneratorExp_walksQ hr.hd S.co (closure_ok S.free) S.cell S.dot S.loc S.kind (by have := hr.dp; omega) ?_ hs
  refine thn (hi.run pins s σ H _ I h) fun xv s1 ⟨v, H1, I1, r1, q1⟩ => ?_
  obtain ⟨yl, xs, rfl, hyl, hPz, hT, q1⟩ := q1
  obtain rfl : xv = Value.ref yl := r1
  obtain ⟨its, rv, hIT, hz⟩ := I1.tuple hyl
  have hIL : s1.heap.IsTuple yl its.toArray := hIT
  have hlen : its.length = xs.length := by rw [← rv.length]
  have hat : ∀ (i : Nat) (u : Value), its.toArray[i]? = some u → ∃ v : V, xs[i]? = some v ∧ RelV v u := fun i u hv => by
    have hv2 : its[i]? = some u := by simpa using hv
    have hi2 : i < its.length := (List.getElem?_eq_some_iff.mp hv2).1
    obtain ⟨a, ha⟩ : ∃ a, xs[i]? = some a := ⟨xs[i]'(by omega), List.getElem?_eq_getElem _⟩
    obtain ⟨u', hu', ru⟩ := rv.get ha
    rw [hv2] at hu'
    cases hu'
    exact ⟨a, ha, ru⟩
  obtain ⟨ps, hP, ht, hca⟩ := hT _ hmT
  refine wpAny_pyIter_tuple hIL ?_
  generalize ho : ({ cls := .type "tuple_iterator", data := .fields #[.ref yl, .int 0 0] } : Obj) = o
  have hitr : (s1.heap.push o).IsTupleIter s1.heap.objs.size yl 0 := by
    subst ho
    exact ⟨_, Heap.get?_push_size _ rfl, rfl, rfl⟩
  have hylt : yl < s1.heap.objs.size := by
    obtain ⟨_, e, _⟩ := _root_.id hIL
    exact Heap.lt_size e
  have hPs : s1.heap.get? P = some { cls := .none, data := .fields ps } := I1.hok P _ hP
  have hPlt : P < s1.heap.objs.size := Heap.lt_size hPs
  have hP2 : (s1.heap.push o).get? P = some { cls := .none, data := .fields ps } := Heap.get?_push_of_some _ hPs
  have cd : PySem.W.CodeHd (s1.heap.push o) c P := TB.code.keeps fun b u e => Heap.get?_push_of_some _ (I1.bk b u e)
  have lim2 : (s1.heap.push o).NoLimit := I1.nolimit.push o
  have cont : ∀ (code : Value) (h3 : Heap) (tk : Nat) (ps' : Array Value) (H2 : Hp), Heap.ExtBut P (s1.heap.push o) h3 → (s1.heap.push o).objs.size ≤ h3.objs.size → h3.get? P = some { cls := .none, data := .fields ps' } → H2 P = some (.tbl ps') →
      Inv X pins σ H2 { s1 with heap := h3, toks := tk } → LamX.ExtN H1 H2 → LamX.Tabs T H2 → H2 s1.heap.objs.size = none →
      wpAny (model X.prog X.w) X.A (builtinsFor X.env.globals X.env.builtins) (fun bi s₄ =>
        ∃ Ia fp wr n₀ Pf St₀ pz F, Value.ref s1.heap.objs.size = .ref Ia ∧ (∀ A' : Around, A'.handled = none → Walks X.prog X.w A' Ia fp wr n₀ Pf St₀) ∧ St₀ 0 s₄.heap ∧ (∀ b ∈ fp, b < s₄.heap.objs.size) ∧ s₄.heap.NoLimit ∧ cStatics ∉ wr ∧
          (∀ href : Heap, (∀ b o, s₄.heap.get? b = some o → href.get? b = some o) →
            QuietGen X.prog X.w (genEnv scope (cloFrom X.env.cells scope.names []) s₄.heap.objs.size code bi X.env) x [] elt (List.range s₄.heap.objs.size) wr Pf pz F href) ∧
          (∀ a h₅ tk gs, gs.bare = true → s₄.heap.objs.size < a → h₅.objs.size = a + 1 → (∀ b o, s₄.heap.get? b = some o → h₅.get? b = some o) →
            WalksS X.prog X.w X.A.in4 a (a :: s₄.heap.objs.size :: List.range s₄.heap.objs.size) (s₄.heap.objs.size :: wr) (GenOnlyQ s₄.gens.size) (passing pz n₀ 0).length
              (fun j y => ∃ i, (passing pz n₀ 0)[j]? = some i ∧ F i y) (GenAt X.prog X.w X.A.in4 a s₄.gens.size s₄.heap.objs.size (List.range s₄.heap.objs.size) wr pz n₀ F) →
            GenAt X.prog X.w X.A.in4 a s₄.gens.size s₄.heap.objs.size (List.range s₄.heap.objs.size) wr pz n₀ F 0 { s₄ with gens := s₄.gens.push gs, toks := tk, heap := h₅ } →
            Q' (.ref a) { s₄ with gens := s₄.gens.push gs, toks := tk, heap := h₅ })) X.xe { s1 with heap := h3, toks := tk } := by
    intro code h3 tk ps' H2 hx hsz hP3 hH2 I3 hE hT2 hI2
    obtain ⟨bm, ob, e1, e2, e3, e4, e5, e6, e7, e8⟩ := TB.bm
    have hcP : cStatics ≠ P := fun e => by
      obtain ⟨_, hns, _⟩ := I1.nolimit
      obtain ⟨o', es, ep, ho, hd, _⟩ := hns
      rw [e, hPs] at ho
      cases ho
      cases hd
    have hcl : cStatics < s1.heap.objs.size := let ⟨_, hns, _⟩ := I1.nolimit; hns.lt
    have sz2 : (s1.heap.push o).objs.size = s1.heap.objs.size + 1 := Heap.size_push ..
    have keep3 : ∀ b u, b ≠ P → s1.heap.get? b = some u → h3.get? b = some u := fun b u hb e => hx b u hb (Heap.get?_push_of_some _ e)
    refine wpAny_builtinsFor (m := X.mg) (by rw [I1.ok.glob]; exact ((I1.mod.glob.keeps I1.bk).push o).extBut hx TB.gP) e1 e2 (keep3 _ _ e4 (I1.bk _ _ e5)) e6 e7 e8 ?_
    have hylP : yl ≠ P := fun z => by
      obtain ⟨_, e, hc1, _, hd1⟩ := _root_.id hIL
      rw [z, hPs] at e
      cases e
      cases hd1
    have hIL3 : h3.IsTuple yl its.toArray := by
      obtain ⟨ob, e, r⟩ := _root_.id hIL
      exact ⟨ob, keep3 _ _ hylP e, r⟩
    have hItr3 : h3.IsTupleIter s1.heap.objs.size yl 0 := by
      obtain ⟨ob, e, r⟩ := hitr
      exact ⟨ob, hx _ _ (Nat.ne_of_gt hPlt) e, r⟩
    refine ⟨s1.heap.objs.size, [s1.heap.objs.size, yl], [s1.heap.objs.size], its.toArray.size, (fun i v => its.toArray[i]? = some v), (fun i h => h.IsTupleIter s1.heap.objs.size yl i ∧ h.IsTuple yl its.toArray), (fun _ => true),
      (fun i y => ∃ v : V, xs[i]? = some v ∧ RelV (f v) y), rfl, (fun A' hA => Walks.tuple hA _ _ (Nat.ne_of_lt hylt) _), ⟨hItr3, hIL3⟩, ?_, lim2.extBut hx hcP, ?_, ?_, ?_⟩
    · intro b hb
      rcases List.mem_cons.mp hb with z | z
      · rw [z]
        show s1.heap.objs.size < h3.objs.size
        omega
      · rcases List.mem_cons.mp z with z | z
        · rw [z]
          have e9 : s1.heap.objs.size ≤ h3.objs.size := by omega
          exact Nat.lt_of_lt_of_le hylt e9
        · cases z
    · intro z
      rcases List.mem_cons.mp z with z | z
      · exact Nat.ne_of_lt hcl z
      · cases z
    · intro href hhref
      refine ⟨fun A' E' i v s₂ m₂ hA hPv hn hm hk => ?_, fun A' E' i v s₂ m₂ hA hPv hp hn hm hk => ?_⟩
      · simp only [List.forIn_nil]
        exact wpAny_pure ⟨rfl, GxR.keeps_refl _⟩
      · obtain ⟨a, ha, ru⟩ := hat i v hPv
        exact wpAny_mono (hel _ A' E' a v s₂ m₂ rfl (hPz a (List.mem_of_getElem? ha)) ru hn hm) (fun y s3 r => ⟨⟨a, ha, r.1⟩, r.2⟩) fun _ _ e => e
    · intro g h5 tk5 gs hgb hag hsz5 hk5 W5 hgat
      simp only [GxR.passing_true, List.length_range] at W5
      have hn5 : its.toArray.size = xs.length := by rw [List.size_toArray, hlen]
      rw [hn5] at W5 hgat
      refine hQ xs H1 g _ q1 ⟨_, _, _, _, _, W5, hgat, ?_, List.mem_cons_self, fun i s9 h9 => ?_, ?_, fun s' hm => ?_⟩
      · intro b hb
        show b < h5.objs.size
        have e5 : h5.objs.size = g + 1 := hsz5
        have h8 : h3.objs.size < g := hag
        rw [e5]
        rcases List.mem_cons.mp hb with z | z
        · rw [z]
          exact Nat.lt_succ_self g
        · rcases List.mem_cons.mp z with z | z
          · rw [z]
            exact Nat.lt_succ_of_lt h8
          · have z2 := List.mem_range.mp z
            have h7 : b < h3.objs.size := z2
            exact Nat.lt_succ_of_lt (Nat.lt_trans h7 h8)
      · obtain ⟨hg9, _⟩ := h9
        exact hg9.typeIs
      · intro j v hv
        obtain ⟨i, hij, a, ha, e⟩ := hv
        obtain ⟨hj, ej⟩ := List.getElem?_eq_some_iff.mp hij
        rw [List.getElem_range] at ej
        subst ej
        exact ⟨a, ha, e⟩
      · have out : ∀ b u, h3.get? b = some u → b ≠ s1.heap.objs.size → b ∉ h3.objs.size :: [s1.heap.objs.size] := fun b u e n hb => by
          have hl := Heap.lt_size e
          rcases List.mem_cons.mp hb with z | z
          · rw [z] at hl
            exact Nat.lt_irrefl _ hl
          · rcases List.mem_cons.mp z with z | z
            · exact n z
            · cases z
        have hm1 : ∀ b u, h3.get? b = some u → b ≠ s1.heap.objs.size → s'.heap.get? b = some u := fun b u e n => hm.heap b u (out b u e n) (hk5 b u e)
        have nP : P ≠ s1.heap.objs.size := Nat.ne_of_lt hPlt
        obtain ⟨f0, f1, f2, f3, f4, f5⟩ := I1.fpOk (H' := H2) (Nat.le_refl _) hI2
        have I4 := I3.turned (h' := s'.heap) (t' := s'.toks) (fun b u hb e => hm1 b u e hb) f0 f1 f3 f4 f5
        have J := GxR.inv_tab (more := #[]) (h' := s'.heap) (g' := s'.gens) (d' := s'.drawn) (t' := s'.toks) I4 hH2 (fun b u hb e => e)
          (by rw [Array.append_empty]; exact hm1 P _ hP3 nP) (AllBare.movedS (I3.bare.push hgb) hm)
        rw [GxR.sh_eta _ s' hm.os] at J
        have eq : upd H2 P (.tbl (ps' ++ #[])) = H2 := by
          funext b
          by_cases z : b = P
          · rw [z, upd_same, hH2, Array.append_empty]
          · rw [upd_ne z]
        rw [eq] at J
        exact ⟨H2, hE, hT2, J⟩
  refine ⟨lim2, ?_⟩
  cases hf : codeAmong gpos ps.toList with
  | none =>
    refine wpAny_genexprCodeX hcode (cd.code hP2 ht) (cd.tab hP2) hf fun c' h' tk hx hge hlt hco' hrec htab' _ => ?_
    obtain ⟨o1, vs, f1, tf, fl, tg, inF, tx, tt, op, _, _, _, _, _, _, _, _, _, htr, _⟩ := hco'
    have sz2 : (s1.heap.push o).objs.size = s1.heap.objs.size + 1 := Heap.size_push ..
    have hge0 : (s1.heap.push o).objs.size ≤ c' := hge
    have hge' : s1.heap.objs.size ≤ c' := by omega
    obtain ⟨c2, oc, cvs, ct, e2, hoc, hcd, hcv⟩ := hrec
    cases e2
    have nC : H1 c' = none := I1.hok.fresh hge'
    have I3 := LamX.inv_table (t' := tk) (more := #[rawInt gpos.line, rawInt gpos.col, .ref c']) (h' := h') I1 hP (fun b u hb e => hx b u hb (Heap.get?_push_of_some _ e)) htab'.2 hge' ⟨oc, cvs, ct, hoc, hcd, hcv⟩
    have hE : LamX.ExtN H1 (upd (upd H1 P (.tbl (ps ++ #[rawInt gpos.line, rawInt gpos.col, .ref c']))) c' (LamX.CodeO c' (X.env.qual ++ "<genexpr>"))) := fun b o e n => by
      rw [upd_ne (ne_of_none e nC), upd_ne (fun z => n ps (Option.some.inj (e.symm.trans (by rw [z]; exact hP))))]
      exact e
    have eL : (ps ++ #[rawInt gpos.line, rawInt gpos.col, .ref c']).toList = ps.toList ++ [rawInt gpos.line, rawInt gpos.col, .ref c'] := by simp
    refine cont _ h' tk _ _ hx (Nat.le_trans hge (Nat.le_of_lt hlt)) htab'.2 (by rw [upd_ne (ne_of_none hP nC), upd_same]) I3 hE (fun p hp => ?_) (by rw [upd_ne (Nat.ne_of_lt (by omega)), upd_ne (Nat.ne_of_gt hPlt)]; exact I1.hok.fresh (Nat.le_refl _))
    by_cases hb : p.1 = P
    · rw [hu p hp hb, hb]
      refine ⟨_, by rw [upd_ne (ne_of_none hP nC), upd_same], htr, fun p' cv hcv => ?_⟩
      rw [eL] at hcv
      rcases LamX.among_app _ ht hcv with z | z
      · obtain ⟨c0, e1, e2⟩ := hca p' cv z
        exact ⟨c0, e1, hE _ _ e2 LamX.codeO_ne⟩
      · exact ⟨c', z, upd_same⟩
    · obtain ⟨ps', a1, a2, a3⟩ := hT p hp
      refine ⟨ps', by rw [upd_ne (ne_of_none a1 nC), upd_ne hb]; exact a1, a2, fun p' cv hcv => ?_⟩
      obtain ⟨c0, e1, e2⟩ := a3 p' cv hcv
      exact ⟨c0, e1, hE _ _ e2 LamX.codeO_ne⟩
  | some cv =>
    refine wpAny_genexprCode_hit hcode (cd.code hP2 ht) hf ?_
    exact cont cv (s1.heap.push o) s1.toks ps H1 (Heap.ExtBut.refl _ _) (Nat.le_refl _) hP2 hP (I1.kept fun b u e => Heap.get?_push_of_some _ e) (LamX.ExtN.refl H1) hT (I1.hok.fresh (Nat.le_refl _))
/-- the truth of the elements, by place -/
def trV (p : V → Bool) (l : List V) (j : Nat) : Bool := match l[j]? with
  | some b => p b
  | none => false
theorem trV_some {p : V → Bool} {l : List V} {j : Nat} {b : V} (h : l[j]? = some b) : trV p l j = p b := by
  unfold trV
  rw [h]
theorem any_trV (l : List V) (p : V → Bool) : (List.range l.length).any (trV p l) = l.any p := by
  rw [Bool.eq_iff_iff, List.any_eq_true, List.any_eq_true]
  constructor
  · intro ⟨j, hj, h⟩
    have hj' := List.mem_range.mp hj
    rw [trV_some (List.getElem?_eq_getElem hj')] at h
    exact ⟨l[j], List.getElem_mem hj', h⟩
  · intro ⟨b, hb, h⟩
    obtain ⟨j, hj, e⟩ := List.getElem_of_mem hb
    refine ⟨j, List.mem_range.mpr hj, ?_⟩
    rw [trV_some (List.getElem?_eq_getElem hj), e]
    exact h
/-- any(p of x for x in te), te a tuple -/
def tAnyT (K : PySem.W.Frag) (T : Tb) (Pv : V → Prop) (p : V → Bool) (te : TE) : TE := fun σ H Q => te σ H fun v H1 => ∃ (yl : Addr) (xs : List V), v = .ref yl ∧ SqT K H1 yl xs ∧ (∀ a ∈ xs, Pv a) ∧ LamX.Tabs T H1 ∧
  ∀ H2, LamX.ExtN H1 H2 → LamX.Tabs T H2 → Q (.bl (xs.any p)) H2
theorem pe_anyT {T : Tb} {c P : Addr} {elt iter : Expr} {x : Str} {px p pos gpos : Pos} {scope : Scope} {Pv : V → Prop} {g : V → Bool} {te : TE} {k : Nat}
    (hr : Room k X.A) (hg : Gl X "any") (hm : X.mg "any" = none) (TB : LamX.TabB X.base X.mg c P) (hcode : X.env.code = .ref c) (hmT : (P, X.env.qual ++ "<genexpr>") ∈ T) (hu : ∀ p ∈ T, p.1 = P → p.2 = X.env.qual ++ "<genexpr>")
    (S : GxR.GenS X.env scope x) (hi : PE X iter te) (hel : EltV X scope x elt Pv (fun v => .bl (g v))) (hs : ∀ v, genFold iter X.env v = pure v)
    (he : starEach [.GeneratorExp elt [⟨.Name x px, iter, [], 0⟩] scope gpos] X.env = (false, eval (.GeneratorExp elt [⟨.Name x px, iter, [], 0⟩] scope gpos) X.env) :: starEach [] X.env := by rfl) :
    PE X (.Call (.Name "any" p) [.GeneratorExp elt [⟨.Name x px, iter, [], 0⟩] scope gpos] [] pos) (tAnyT X.K T Pv g te) := by
  refine ⟨fun pins s σ H Q I h => ?_⟩
  refine wpAny_Call_Name_kw (ld_blt I hg hm boot_any ?_)
  refine PyProof.Rows.callWith_builtin1 ?_ he (by rfl)
  rw [he]
  show wpAny _ _ (spliced ((false, eval (.GeneratorExp elt [⟨.Name x px, iter, [], 0⟩] scope gpos) X.env) :: backTo pos (starEach [] X.env))) _ _ s
  refine Calls.spliced_cons (gen_tupV (T := T) (R := fun xs H1 => ∀ H2, LamX.ExtN H1 H2 → LamX.Tabs T H2 → Q (.bl (xs.any g)) H2) hr TB hcode hmT hu S hi hel hs I h fun xs H1 gn s5 hR hG => ?_)
  obtain ⟨fp, wr, G, F, St, W, hst, _, _, _, hF, hI⟩ := hG
  refine Calls.spliced_nil ?_
  have W1 := W.in4_1
  refine call_any_walkS (W1.self 0 _ _ _ hst ⟨gn, fp, wr, G, _, F, St, trV g xs, rfl, W1, hst, ?_, fun s' hmv => ?_⟩)
  · intro j y sj Qj Ej hy hQj
    obtain ⟨v, hv, r⟩ := hF j y hy
    obtain rfl : y = .bool (g v) := r
    have hQ2 : Qj (trV g xs j) sj := hQj
    rw [trV_some hv] at hQ2
    exact wpAny_truthy_bool hQ2
  · obtain ⟨H2, hE, hT2, J⟩ := hI s' hmv
    refine ⟨.bl _, H2, J, rfl, ?_⟩
    rw [any_trV xs g]
    exact hR H2 hE hT2
end

/-! ### by data -/
section
variable [Tt] {K : PySem.W.Frag} {E : L2.St → XK} {Δ : En} {te : TE} {X : Addr → Prop}
/-- a growth of tables alone -/
theorem Gr.tabs {q : Qd} {G H H1 : Hp} (sub : Exx G H) (e : LamX.ExtN H H1) (t : TbOk H1) : Gr q G H G H1 :=
  ⟨Exx.refl _, fun _ _ e => .inl e, fun b o h nt => e b o (sub b o h nt) nt, fun b o _ h nt => e b o h nt, fun _ => t, fun b _ ⟨x, y, z, d⟩ => ⟨x, y, z, e _ _ d (fun _ z => nomatch z)⟩⟩
theorem RpL.any {G : Hp} {Pv : V → Prop} {g : V → Bool} {p : D → Bool} : ∀ {xs : List V} {ds : List D}, RpL K G xs ds → (∀ v d, d ∈ ds → Rp K G v d → Pv v ∧ g v = p d) → (∀ a ∈ xs, Pv a) ∧ xs.any g = ds.any p
  | [], [], _, _ => And.intro (fun _ h => nomatch h) rfl
  | x :: xs, d :: ds, h, hp => by
    cases h with
    | cons r rs =>
      obtain ⟨h1, h2⟩ := hp x d (List.mem_cons_self ..) r
      obtain ⟨h3, h4⟩ := RpL.any rs fun v d hd r => hp v d (List.mem_cons_of_mem _ hd) r
      refine ⟨fun a ha => ?_, by rw [List.any_cons, List.any_cons, h2, h4]⟩
      rcases List.mem_cons.mp ha with z | z
      · rw [z]; exact h1
      · exact h3 a z
theorem ev_anyT {Pv : V → Prop} {g : V → Bool} {p : D → Bool} {ds : List D} (h : Ev K E te Δ (· = .tup ds) X) (hp : ∀ G v d, d ∈ ds → Rp K G v d → Pv v ∧ g v = p d) :
    Ev K E (tAnyT K Tt.tb Pv g te) Δ (· = .bl (ds.any p)) X := fun q G0 H0 G H σ Q s k kx =>
  h q G0 H0 G H σ _ s (fun v d G1 H1 g1 r1 p1 => by
    subst p1
    obtain ⟨a, xs, rfl, hx, rl⟩ := r1.tup_inv
    obtain ⟨h1, h2⟩ := rl.any fun v d hd r => hp G1 v d hd r
    refine ⟨a, xs, rfl, st_ex g1.sub hx, h1, (s.go g1).rs.tb, fun H2 e t => ?_⟩
    rw [h2]
    exact k _ _ G1 H2 (s.tr g1 (.tabs g1.sub e t)) (.bl _) rfl) kx
end
end Ts


/-! Generator expressions over a tuple of pairs, two names: sum. -/
namespace Ts
open PySem PySem.Spec PyProof.Rows L2
theorem pickN {α : Type} [Inhabited α] {n : Nat} {p : Nat → α → Prop} (h : ∀ i, i < n → ∃ a, p i a) : ∃ f : Nat → α, ∀ i, i < n → p i (f i) :=
  ⟨fun i => if h' : i < n then (h i h').choose else default, fun i h' => by simp only [dif_pos h']; exact (h i h').choose_spec⟩
/-- an iterator over a tuple whose items are tuples -/
theorem walks_pairs {prog : Program} {w : World} {A : Around} (hh : A.handled = none) (I ax : Addr) (hne : ax ≠ I) (items : Array Value) (Ts : Nat → Addr) (vals : Nat → Array Value)
    (hit : ∀ j, j < items.size → items[j]? = some (.ref (Ts j))) (hTI : ∀ j, j < items.size → Ts j ≠ I) :
    WalksU prog w A I (I :: ax :: (List.range items.size).map Ts) [I] items.size (fun j v => v = vals j)
      (fun j h => h.IsTupleIter I ax j ∧ h.IsTuple ax items ∧ ∀ k, k < items.size → h.IsTuple (Ts k) (vals k))
      (fun j T h => (j < items.size ∧ T = Ts j) ∧ h.IsTupleIter I ax (j + 1) ∧ h.IsTuple ax items ∧ ∀ k, k < items.size → h.IsTuple (Ts k) (vals k)) where
  sub := fun b hb => by
    rw [List.mem_singleton.mp hb]
    exact List.mem_cons_self
  frame := fun _ _ _ st hk => ⟨st.1.at fun o e => hk I (by simp) o e, st.2.1.at fun o e => hk ax (by simp) o e,
    fun k hk' => (st.2.2 k hk').at fun o e => hk (Ts k) (List.mem_cons_of_mem _ (List.mem_cons_of_mem _ (List.mem_map.mpr ⟨k, List.mem_range.mpr hk', rfl⟩))) o e⟩
  item := fun i s Q E hi st hQ => by
    refine wpAny_pyNext_tuple_item st.1 st.2.1 (x := .ref (Ts i)) (hit i hi) fun h' hit' hs' => ?_
    have tup : ∀ k, k < items.size → h'.IsTuple (Ts k) (vals k) := fun k hk' => (st.2.2 k hk').extBut hs'.extBut (hTI k hk')
    exact hQ (Ts i) (vals i) h' s.toks rfl (tup i hi) ⟨⟨hi, rfl⟩, hit', st.2.1.extBut hs'.extBut hne, tup⟩ fun b o hb e => hs'.extBut b o (fun h => hb (by simp [h])) e
  go := fun elts k pos i T s Q E hm hQ => by
    obtain ⟨o, ho, hc, hd⟩ := hm.2.1
    exact go_of ho hc hd (by decide) (hQ s.heap hm.2 fun _ _ _ e => e)
  apart := fun j T _ hm hmem => by
    rcases List.mem_cons.mp hmem with e | e
    · exact hTI j hm.1.1 (hm.1.2 ▸ e)
    · cases e
  done := fun s Q E st hQ => wpAny_pyNext_tuple_end hh st.1 st.2.1 (by simp) fun h' he' => hQ h' s.toks fun b o hb e => he' b o (fun h => hb (by simp [h])) e
  self := fun _ _ _ _ st hQ => wpAny_pyIter_tupleiter st.1 hQ
theorem walks_pairs2 {prog : Program} {w : World} {A : Around} (hh : A.handled = none) (I ax : Addr) (hne : ax ≠ I) (items : Array Value) (Ts : Nat → Addr) (vals : Nat → Array Value)
    (hit : ∀ j, j < items.size → items[j]? = some (.ref (Ts j))) (hTI : ∀ j, j < items.size → Ts j ≠ I) :
    WalksU prog w A I (I :: ax :: (List.range items.size).map Ts) [I] items.size (fun j v => j < items.size ∧ v = vals j)
      (fun j h => h.IsTupleIter I ax j ∧ h.IsTuple ax items ∧ ∀ k, k < items.size → h.IsTuple (Ts k) (vals k))
      (fun j T h => (j < items.size ∧ T = Ts j) ∧ h.IsTupleIter I ax (j + 1) ∧ h.IsTuple ax items ∧ ∀ k, k < items.size → h.IsTuple (Ts k) (vals k)) :=
  have W := walks_pairs (prog := prog) (w := w) hh I ax hne items Ts vals hit hTI
  { W with item := fun i s Q E hi st hQ => W.item i s Q E hi st fun T vs h' tk hp => hQ T vs h' tk ⟨hi, hp⟩ }
/-- the element at two values: an int; nothing is touched. KV h ua ub n: in the heap h the two give n -/
def EltP (X : Cx) (scope : Scope) (xa xb : Str) (elt : Expr) (KV : Heap → Value → Value → Int → Prop) : Prop :=
  ∀ (cenv : Env) (A' : Around) (E' : Value → Shared → Prop) (ua ub : Value) (n : Int) (s₂ : Shared) (m₂ : Str → Option Value), A'.handled = none → Mod X.K X.mg X.base → cenv.scope = scope → cenv.globals = mainGlobals → cenv.builtins = builtinsNs → (∀ b o, X.base.get? b = some o → s₂.heap.get? b = some o) →
    KV s₂.heap ua ub n → s₂.heap.Ns cenv.locals m₂ → m₂ xa = some ua → m₂ xb = some ub →
    wpAny (model X.prog X.w) A' (eval elt cenv) (fun y s₃ => (∃ t, y = .int n t) ∧ Keeps s₂ s₃) E' s₂
/-- the generator g over ints ns, ready to be walked in the state s5 -/
def ReadyI (T : Tb) (X : Cx) (pins : List (Addr × Obj)) (σ : L2.St) (H1 : Hp) (ns : List Int) (g : Addr) (s5 : Shared) : Prop :=
  ∃ (fp wr : List Addr) (G : Array GenState → Array GenState → Prop) (F : Nat → Value → Prop) (St : Nat → Shared → Prop),
    WalksS X.prog X.w X.A.in4 g fp wr G ns.length F St ∧ St 0 s5 ∧ (∀ b ∈ fp, b < s5.heap.objs.size) ∧ g ∈ fp ∧ (∀ i s9, St i s9 → s9.TypeIs (.ref g) "generator") ∧
    (∀ j y, F j y → ∃ n t, ns[j]? = some n ∧ y = .int n t) ∧
    ∀ s', Moved wr G s5 s' → ∃ H2, LamX.ExtN H1 H2 ∧ LamX.Tabs T H2 ∧ Inv X pins σ H2 s'
section
variable {X : Cx} {pins : List (Addr × Obj)} {σ : L2.St} {H : Hp} {s : Shared}
/-- the table of the running def, its code objects told -/
theorem gen_pairs {T : Tb} {c P : Addr} {elt iter : Expr} {xa xb : Str} {pa pb pt gpos : Pos} {kt : Nat} {scope : Scope} {KV : Heap → Value → Value → Int → Prop} {KVV : Hp → V → V → Int → Prop} {te : TE} {k : Nat} {Q' : Value → Shared → Prop} {R : List Int → Hp → Prop}
    (hr : Room k X.A) (TB : LamX.TabB X.base X.mg c P) (hcode : X.env.code = .ref c) (hmT : (P, X.env.qual ++ "<genexpr>") ∈ T) (hu : ∀ p ∈ T, p.1 = P → p.2 = X.env.qual ++ "<genexpr>")
    (S : GxR.GenS X.env scope xa) (Sb : scope.names.lookup xb = some .local) (hab : xa ≠ xb) (hi : PE X iter te) (hel : EltP X scope xa xb elt KV)
    (hst : ∀ h h' ua ub n, KV h ua ub n → (∀ t its, h.IsTuple t its → h'.IsTuple t its) → KV h' ua ub n) (hKV : ∀ pins s σ H p q n ua ub, Inv X pins σ H s → KVV H p q n → RelV p ua → RelV q ub → KV s.heap ua ub n)
    (hs : ∀ v, genFold iter X.env v = pure v) (I : Inv X pins σ H s) (h : te σ H fun v H1 => ∃ (yl : Addr) (xs : List V) (ns : List Int), v = .ref yl ∧ SqT X.K H1 yl xs ∧ ns.length = xs.length ∧ (∀ (j : Nat) (v : V) (n : Int), xs[j]? = some v → ns[j]? = some n → ∃ (a : Addr) (p q : V), v = .ref a ∧ SqT X.K H1 a [p, q] ∧ KVV H1 p q n) ∧ LamX.Tabs T H1 ∧ R ns H1)
    (hQ : ∀ ns H1 g s5, R ns H1 → ReadyI T X pins σ H1 ns g s5 → Q' (.ref g) s5) :
    wpAny (model X.prog X.w) X.A (eval (.GeneratorExp elt [⟨.Tuple [.Name xa pa, .Name xb pb] kt pt, iter, [], 0⟩] scope gpos) X.env) Q' X.xe s := by
  refine wpAny_GeneratorExp_walksQT hr.hd S.co (closure_ok S.free) S.cell S.dot S.loc Sb hab S.kind (by have := hr.dp; omega) ?_ hs
  refine thn (hi.run pins s σ H _ I h) fun xv s1 ⟨v, H1, I1, r1, q1⟩ => ?_
  obtain ⟨yl, xs, ns, rfl, hyl, hnl, hPz, hT, q1⟩ := q1
  obtain rfl : xv = Value.ref yl := r1
  obtain ⟨its, rv, hIT, hz⟩ := I1.tuple hyl
  have hIL : s1.heap.IsTuple yl its.toArray := hIT
  have hlen : its.length = xs.length := by rw [← rv.length]
  have hat : ∀ i, i < its.length → ∃ (a : Addr) (ua ub : Value) (n : Int), its[i]? = some (.ref a) ∧ s1.heap.IsTuple a #[ua, ub] ∧ ns[i]? = some n ∧ KV s1.heap ua ub n := fun i hi2 => by
    have e1 : xs[i]? = some (xs[i]'(by omega)) := List.getElem?_eq_getElem _
    have e2 : ns[i]? = some (ns[i]'(by omega)) := List.getElem?_eq_getElem _
    obtain ⟨a, p, q, hv, hsq, hkv⟩ := hPz i _ _ e1 e2
    obtain ⟨u', hu', ru⟩ := rv.get e1
    rw [hv] at ru
    obtain rfl : u' = Value.ref a := ru
    obtain ⟨us, rus, hIT2, _⟩ := I1.tuple hsq
    obtain ⟨ua, ub, eus, ra, rb⟩ := vals2 rus
    subst eus
    exact ⟨a, ua, ub, _, hu', hIT2, e2, hKV _ _ _ _ _ _ _ _ _ I1 hkv ra rb⟩
  obtain ⟨Ts, hTs⟩ := pickN hat
  obtain ⟨vals, hvals⟩ := pickN (n := its.length) (α := Array Value) (p := fun i v => ∃ (ua ub : Value) (n : Int), v = #[ua, ub] ∧ its[i]? = some (.ref (Ts i)) ∧ s1.heap.IsTuple (Ts i) #[ua, ub] ∧ ns[i]? = some n ∧ KV s1.heap ua ub n)
    fun i h => by
      obtain ⟨ua, ub, n, h1⟩ := hTs i h
      exact ⟨_, ua, ub, n, rfl, h1⟩
  obtain ⟨ps, hP, ht, hca⟩ := hT _ hmT
  refine wpAny_pyIter_tuple hIL ?_
  generalize ho : ({ cls := .type "tuple_iterator", data := .fields #[.ref yl, .int 0 0] } : Obj) = o
  have hitr : (s1.heap.push o).IsTupleIter s1.heap.objs.size yl 0 := by
    subst ho
    exact ⟨_, Heap.get?_push_size _ rfl, rfl, rfl⟩
  have hylt : yl < s1.heap.objs.size := by
    obtain ⟨_, e, _⟩ := _root_.id hIL
    exact Heap.lt_size e
  have hPs : s1.heap.get? P = some { cls := .none, data := .fields ps } := I1.hok P _ hP
  have hPlt : P < s1.heap.objs.size := Heap.lt_size hPs
  have hP2 : (s1.heap.push o).get? P = some { cls := .none, data := .fields ps } := Heap.get?_push_of_some _ hPs
  have cd : PySem.W.CodeHd (s1.heap.push o) c P := TB.code.keeps fun b u e => Heap.get?_push_of_some _ (I1.bk b u e)
  have lim2 : (s1.heap.push o).NoLimit := I1.nolimit.push o
  have cont : ∀ (code : Value) (h3 : Heap) (tk : Nat) (ps' : Array Value) (H2 : Hp), Heap.ExtBut P (s1.heap.push o) h3 → (s1.heap.push o).objs.size ≤ h3.objs.size → h3.get? P = some { cls := .none, data := .fields ps' } → H2 P = some (.tbl ps') →
      Inv X pins σ H2 { s1 with heap := h3, toks := tk } → LamX.ExtN H1 H2 → LamX.Tabs T H2 → H2 s1.heap.objs.size = none →
      wpAny (model X.prog X.w) X.A (builtinsFor X.env.globals X.env.builtins) (fun bi s₄ =>
        ∃ Ia fp wr n₀ Pf St₀ Mid pz F, Value.ref s1.heap.objs.size = .ref Ia ∧ (∀ A' : Around, A'.handled = none → WalksU X.prog X.w A' Ia fp wr n₀ Pf St₀ Mid) ∧ (∀ i vals, Pf i vals → ∃ va vb, vals = #[va, vb]) ∧ St₀ 0 s₄.heap ∧ (∀ b ∈ fp, b < s₄.heap.objs.size) ∧ s₄.heap.NoLimit ∧ cStatics ∉ wr ∧
          (∀ href : Heap, (∀ b o, s₄.heap.get? b = some o → href.get? b = some o) →
            QuietGenT X.prog X.w (genEnv scope (cloFrom X.env.cells scope.names []) s₄.heap.objs.size code bi X.env) xa xb [] elt (List.range s₄.heap.objs.size) wr Pf pz F href) ∧
          (∀ a h₅ tk gs, gs.bare = true → s₄.heap.objs.size < a → h₅.objs.size = a + 1 → (∀ b o, s₄.heap.get? b = some o → h₅.get? b = some o) →
            WalksS X.prog X.w X.A.in4 a (a :: s₄.heap.objs.size :: List.range s₄.heap.objs.size) (s₄.heap.objs.size :: wr) (GenOnlyQ s₄.gens.size) (passing pz n₀ 0).length
              (fun j y => ∃ i, (passing pz n₀ 0)[j]? = some i ∧ F i y) (GenAt X.prog X.w X.A.in4 a s₄.gens.size s₄.heap.objs.size (List.range s₄.heap.objs.size) wr pz n₀ F) →
            GenAt X.prog X.w X.A.in4 a s₄.gens.size s₄.heap.objs.size (List.range s₄.heap.objs.size) wr pz n₀ F 0 { s₄ with gens := s₄.gens.push gs, toks := tk, heap := h₅ } →
            Q' (.ref a) { s₄ with gens := s₄.gens.push gs, toks := tk, heap := h₅ })) X.xe { s1 with heap := h3, toks := tk } := by
    intro code h3 tk ps' H2 hx hsz hP3 hH2 I3 hE hT2 hI2
    obtain ⟨bm, ob, e1, e2, e3, e4, e5, e6, e7, e8⟩ := TB.bm
    have hcP : cStatics ≠ P := fun e => by
      obtain ⟨_, hns, _⟩ := I1.nolimit
      obtain ⟨o', es, ep, ho, hd, _⟩ := hns
      rw [e, hPs] at ho
      cases ho
      cases hd
    have hcl : cStatics < s1.heap.objs.size := let ⟨_, hns, _⟩ := I1.nolimit; hns.lt
    have sz2 : (s1.heap.push o).objs.size = s1.heap.objs.size + 1 := Heap.size_push ..
    have keep3 : ∀ b u, b ≠ P → s1.heap.get? b = some u → h3.get? b = some u := fun b u hb e => hx b u hb (Heap.get?_push_of_some _ e)
    refine wpAny_builtinsFor (m := X.mg) (by rw [I1.ok.glob]; exact ((I1.mod.glob.keeps I1.bk).push o).extBut hx TB.gP) e1 e2 (keep3 _ _ e4 (I1.bk _ _ e5)) e6 e7 e8 ?_
    have hylP : yl ≠ P := fun z => by
      obtain ⟨_, e, hc1, _, hd1⟩ := _root_.id hIL
      rw [z, hPs] at e
      cases e
      cases hd1
    have hIL3 : h3.IsTuple yl its.toArray := by
      obtain ⟨ob, e, r⟩ := _root_.id hIL
      exact ⟨ob, keep3 _ _ hylP e, r⟩
    have hItr3 : h3.IsTupleIter s1.heap.objs.size yl 0 := by
      obtain ⟨ob, e, r⟩ := hitr
      exact ⟨ob, hx _ _ (Nat.ne_of_gt hPlt) e, r⟩
    have tup3 : ∀ {t0 : Addr} {its0 : Array Value}, s1.heap.IsTuple t0 its0 → h3.IsTuple t0 its0 := fun {t0 its0} ⟨ob, e, hc1, n0, hd1⟩ => by
      refine ⟨ob, keep3 _ _ (fun z => ?_) e, hc1, n0, hd1⟩
      rw [z, hPs] at e
      cases e
      cases hd1
    refine ⟨s1.heap.objs.size, s1.heap.objs.size :: yl :: (List.range its.toArray.size).map Ts, [s1.heap.objs.size], its.toArray.size, (fun j v => j < its.toArray.size ∧ v = vals j), (fun j h => h.IsTupleIter s1.heap.objs.size yl j ∧ h.IsTuple yl its.toArray ∧ ∀ k, k < its.toArray.size → h.IsTuple (Ts k) (vals k)),
      (fun j T h => (j < its.toArray.size ∧ T = Ts j) ∧ h.IsTupleIter s1.heap.objs.size yl (j + 1) ∧ h.IsTuple yl its.toArray ∧ ∀ k, k < its.toArray.size → h.IsTuple (Ts k) (vals k)), (fun _ => true), (fun i y => ∃ n t, ns[i]? = some n ∧ y = .int n t), rfl, (fun A' hA => ?_), (fun i vs hv => ?_), ⟨hItr3, hIL3, fun k hk => ?_⟩, ?_, lim2.extBut hx hcP, ?_, ?_, ?_⟩
    · exact walks_pairs2 hA _ _ (Nat.ne_of_lt hylt) _ Ts vals (fun j hj => by
        obtain ⟨_, _, _, _, e, _⟩ := hvals j (by simpa using hj)
        simpa using e) fun j hj => by
        obtain ⟨_, _, _, _, _, ⟨_, e, _⟩, _⟩ := hvals j (by simpa using hj)
        exact Nat.ne_of_lt (Heap.lt_size e)
    · obtain ⟨ua, ub, _, e, _⟩ := hvals i (by simpa using hv.1)
      exact ⟨ua, ub, by rw [hv.2, e]⟩
    · obtain ⟨ua, ub, _, e, _, hT3, _⟩ := hvals k (by simpa using hk)
      rw [e]; exact tup3 hT3
    · intro b hb
      have e9 : s1.heap.objs.size < h3.objs.size := by omega
      show b < h3.objs.size
      rcases List.mem_cons.mp hb with z | z
      · rw [z]; exact e9
      · rcases List.mem_cons.mp z with z | z
        · rw [z]; exact Nat.lt_trans hylt e9
        · obtain ⟨j, hj, e⟩ := List.mem_map.mp z
          obtain ⟨_, _, _, _, _, ⟨_, e2, _⟩, _⟩ := hvals j (by simpa using hj)
          rw [← e]; exact Nat.lt_trans (Heap.lt_size e2) e9
    · intro z
      rcases List.mem_cons.mp z with z | z
      · exact Nat.ne_of_lt hcl z
      · cases z
    · intro href hhref
      refine ⟨fun A' E' i va vb s₂ m₂ hA hPv hn hm hm' hk => ?_, fun A' E' i va vb s₂ m₂ hA hPv hp hn hm hm' hk => ?_⟩
      · simp only [List.forIn_nil]
        exact wpAny_pure ⟨rfl, GxR.keeps_refl _⟩
      · obtain ⟨ua, ub, n, e, _, _, hn0, hkv⟩ := hvals i (by simpa using hPv.1)
        have e' : #[va, vb] = #[ua, ub] := by rw [hPv.2, e]
        cases e'
        have up : ∀ b o, h3.get? b = some o → b ≠ s1.heap.objs.size → s₂.heap.get? b = some o := fun b o e n => hk b (List.mem_range.mpr (Heap.lt_size e)) (fun z => by
          rcases List.mem_cons.mp z with z | z
          · exact n z
          · cases z) o (hhref b o e)
        have hkv2 := hst _ s₂.heap _ _ _ hkv fun t0 its0 ht0 => by
          obtain ⟨ob, e, r⟩ := tup3 ht0
          obtain ⟨_, e0, _⟩ := ht0
          exact ⟨ob, up _ _ e (Nat.ne_of_lt (Heap.lt_size e0)), r⟩
        refine wpAny_mono (hel _ A' E' va vb n s₂ m₂ hA I1.mod rfl I1.ok.glob rfl (fun b o e => ?_) hkv2 hn hm hm') (fun y s3 r => ⟨⟨n, r.1.choose, hn0, r.1.choose_spec⟩, r.2⟩) fun _ _ e => e
        have e1' := I1.bk b o e
        exact up b o (keep3 b o (fun z => by
          have e9 := (I1.bs b o e).2
          rw [z, hP] at e9
          cases e9) e1') (Nat.ne_of_lt (Heap.lt_size e1'))
    · intro g h5 tk5 gs hgb hag hsz5 hk5 W5 hgat
      simp only [GxR.passing_true, List.length_range] at W5
      have hn5 : its.toArray.size = ns.length := by rw [List.size_toArray, hlen, hnl]
      rw [hn5] at W5 hgat
      refine hQ ns H1 g _ q1 ⟨_, _, _, _, _, W5, hgat, ?_, List.mem_cons_self, fun i s9 h9 => ?_, ?_, fun s' hm => ?_⟩
      · intro b hb
        show b < h5.objs.size
        have e5 : h5.objs.size = g + 1 := hsz5
        have h8 : h3.objs.size < g := hag
        rw [e5]
        rcases List.mem_cons.mp hb with z | z
        · rw [z]
          exact Nat.lt_succ_self g
        · rcases List.mem_cons.mp z with z | z
          · rw [z]
            exact Nat.lt_succ_of_lt h8
          · have z2 := List.mem_range.mp z
            have h7 : b < h3.objs.size := z2
            exact Nat.lt_succ_of_lt (Nat.lt_trans h7 h8)
      · obtain ⟨hg9, _⟩ := h9
        exact hg9.typeIs
      · intro j v hv
        obtain ⟨i, hij, n, t, ha, e⟩ := hv
        obtain ⟨hj, ej⟩ := List.getElem?_eq_some_iff.mp hij
        rw [List.getElem_range] at ej
        subst ej
        exact ⟨n, t, ha, e⟩
      · have out : ∀ b u, h3.get? b = some u → b ≠ s1.heap.objs.size → b ∉ h3.objs.size :: [s1.heap.objs.size] := fun b u e n hb => by
          have hl := Heap.lt_size e
          rcases List.mem_cons.mp hb with z | z
          · rw [z] at hl
            exact Nat.lt_irrefl _ hl
          · rcases List.mem_cons.mp z with z | z
            · exact n z
            · cases z
        have hm1 : ∀ b u, h3.get? b = some u → b ≠ s1.heap.objs.size → s'.heap.get? b = some u := fun b u e n => hm.heap b u (out b u e n) (hk5 b u e)
        have nP : P ≠ s1.heap.objs.size := Nat.ne_of_lt hPlt
        obtain ⟨f0, f1, f2, f3, f4, f5⟩ := I1.fpOk (H' := H2) (Nat.le_refl _) hI2
        have I4 := I3.turned (h' := s'.heap) (t' := s'.toks) (fun b u hb e => hm1 b u e hb) f0 f1 f3 f4 f5
        have J := GxR.inv_tab (more := #[]) (h' := s'.heap) (g' := s'.gens) (d' := s'.drawn) (t' := s'.toks) I4 hH2 (fun b u hb e => e)
          (by rw [Array.append_empty]; exact hm1 P _ hP3 nP) (AllBare.movedS (I3.bare.push hgb) hm)
        rw [GxR.sh_eta _ s' hm.os] at J
        have eq : upd H2 P (.tbl (ps' ++ #[])) = H2 := by
          funext b
          by_cases z : b = P
          · rw [z, upd_same, hH2, Array.append_empty]
          · rw [upd_ne z]
        rw [eq] at J
        exact ⟨H2, hE, hT2, J⟩
  refine ⟨lim2, ?_⟩
  cases hf : codeAmong gpos ps.toList with
  | none =>
    refine wpAny_genexprCodeX hcode (cd.code hP2 ht) (cd.tab hP2) hf fun c' h' tk hx hge hlt hco' hrec htab' _ => ?_
    obtain ⟨o1, vs, f1, tf, fl, tg, inF, tx, tt, op, _, _, _, _, _, _, _, _, _, htr, _⟩ := hco'
    have sz2 : (s1.heap.push o).objs.size = s1.heap.objs.size + 1 := Heap.size_push ..
    have hge0 : (s1.heap.push o).objs.size ≤ c' := hge
    have hge' : s1.heap.objs.size ≤ c' := by omega
    obtain ⟨c2, oc, cvs, ct, e2, hoc, hcd, hcv⟩ := hrec
    cases e2
    have nC : H1 c' = none := I1.hok.fresh hge'
    have I3 := LamX.inv_table (t' := tk) (more := #[rawInt gpos.line, rawInt gpos.col, .ref c']) (h' := h') I1 hP (fun b u hb e => hx b u hb (Heap.get?_push_of_some _ e)) htab'.2 hge' ⟨oc, cvs, ct, hoc, hcd, hcv⟩
    have hE : LamX.ExtN H1 (upd (upd H1 P (.tbl (ps ++ #[rawInt gpos.line, rawInt gpos.col, .ref c']))) c' (LamX.CodeO c' (X.env.qual ++ "<genexpr>"))) := fun b o e n => by
      rw [upd_ne (ne_of_none e nC), upd_ne (fun z => n ps (Option.some.inj (e.symm.trans (by rw [z]; exact hP))))]
      exact e
    have eL : (ps ++ #[rawInt gpos.line, rawInt gpos.col, .ref c']).toList = ps.toList ++ [rawInt gpos.line, rawInt gpos.col, .ref c'] := by simp
    refine cont _ h' tk _ _ hx (Nat.le_trans hge (Nat.le_of_lt hlt)) htab'.2 (by rw [upd_ne (ne_of_none hP nC), upd_same]) I3 hE (fun p hp => ?_) (by rw [upd_ne (Nat.ne_of_lt (by omega)), upd_ne (Nat.ne_of_gt hPlt)]; exact I1.hok.fresh (Nat.le_refl _))
    by_cases hb : p.1 = P
    · rw [hu p hp hb, hb]
      refine ⟨_, by rw [upd_ne (ne_of_none hP nC), upd_same], htr, fun p' cv hcv => ?_⟩
      rw [eL] at hcv
      rcases LamX.among_app _ ht hcv with z | z
      · obtain ⟨c0, e1, e2⟩ := hca p' cv z
        exact ⟨c0, e1, hE _ _ e2 LamX.codeO_ne⟩
      · exact ⟨c', z, upd_same⟩
    · obtain ⟨ps', a1, a2, a3⟩ := hT p hp
      refine ⟨ps', by rw [upd_ne (ne_of_none a1 nC), upd_ne hb]; exact a1, a2, fun p' cv hcv => ?_⟩
      obtain ⟨c0, e1, e2⟩ := a3 p' cv hcv
      exact ⟨c0, e1, hE _ _ e2 LamX.codeO_ne⟩
  | some cv =>
    refine wpAny_genexprCode_hit hcode (cd.code hP2 ht) hf ?_
    exact cont cv (s1.heap.push o) s1.toks ps H1 (Heap.ExtBut.refl _ _) (Nat.le_refl _) hP2 hP (I1.kept fun b u e => Heap.get?_push_of_some _ e) (LamX.ExtN.refl H1) hT (I1.hok.fresh (Nat.le_refl _))
/-- sum(.. for xa, xb in te), te a tuple of pairs -/
def tSumP (K : PySem.W.Frag) (T : Tb) (KVV : Hp → V → V → Int → Prop) (te : TE) : TE := fun σ H Q => te σ H fun v H1 => ∃ (yl : Addr) (xs : List V) (ns : List Int), v = .ref yl ∧ SqT K H1 yl xs ∧ ns.length = xs.length ∧
  (∀ (j : Nat) (v : V) (n : Int), xs[j]? = some v → ns[j]? = some n → ∃ (a : Addr) (p q : V), v = .ref a ∧ SqT K H1 a [p, q] ∧ KVV H1 p q n) ∧ LamX.Tabs T H1 ∧
  ((∀ n ∈ ns, 0 ≤ n ∧ n < 2 ^ 40) ∧ ns.length < 2 ^ 20 ∧ ∀ H2, LamX.ExtN H1 H2 → LamX.Tabs T H2 → Q (.int ns.sum) H2)
theorem preSum_sum (ns : List Int) (val : Nat → Int) (h : ∀ j n, ns[j]? = some n → val j = n) : ∀ k, k ≤ ns.length → preSum val k = (ns.take k).sum
  | 0, _ => by simp [preSum]
  | k + 1, hk => by
    have ih := preSum_sum ns val h k (by omega)
    have e : ns[k]? = some (ns[k]'(by omega)) := List.getElem?_eq_getElem _
    rw [preSum, ih, h k _ e, List.take_add_one, e, Option.toList_some, List.sum_append]
    simp
theorem sum_bnd : ∀ {ns : List Int}, (∀ n ∈ ns, 0 ≤ n ∧ n < 2 ^ 40) → 0 ≤ ns.sum ∧ ns.sum ≤ ns.length * 2 ^ 40
  | [], _ => by simp
  | n :: ns, h => by
    obtain ⟨h1, h2⟩ := sum_bnd fun m hm => h m (List.mem_cons_of_mem _ hm)
    obtain ⟨h3, h4⟩ := h n (List.mem_cons_self ..)
    rw [List.sum_cons, List.length_cons]
    push_cast
    omega
theorem pe_sumP {T : Tb} {c P : Addr} {elt iter : Expr} {xa xb : Str} {pa pb pt p pos gpos : Pos} {kt : Nat} {scope : Scope} {KV : Heap → Value → Value → Int → Prop} {KVV : Hp → V → V → Int → Prop} {te : TE} {k : Nat}
    (hr : Room k X.A) (hg : Gl X "sum") (hm : X.mg "sum" = none) (TB : LamX.TabB X.base X.mg c P) (hcode : X.env.code = .ref c) (hmT : (P, X.env.qual ++ "<genexpr>") ∈ T) (hu : ∀ p ∈ T, p.1 = P → p.2 = X.env.qual ++ "<genexpr>")
    (S : GxR.GenS X.env scope xa) (Sb : scope.names.lookup xb = some .local) (hab : xa ≠ xb) (hi : PE X iter te) (hel : EltP X scope xa xb elt KV)
    (hst : ∀ h h' ua ub n, KV h ua ub n → (∀ t its, h.IsTuple t its → h'.IsTuple t its) → KV h' ua ub n) (hKV : ∀ pins s σ H p q n ua ub, Inv X pins σ H s → KVV H p q n → RelV p ua → RelV q ub → KV s.heap ua ub n)
    (hs : ∀ v, genFold iter X.env v = pure v)
    (he : starEach [.GeneratorExp elt [⟨.Tuple [.Name xa pa, .Name xb pb] kt pt, iter, [], 0⟩] scope gpos] X.env = (false, eval (.GeneratorExp elt [⟨.Tuple [.Name xa pa, .Name xb pb] kt pt, iter, [], 0⟩] scope gpos) X.env) :: starEach [] X.env := by rfl) :
    PE X (.Call (.Name "sum" p) [.GeneratorExp elt [⟨.Tuple [.Name xa pa, .Name xb pb] kt pt, iter, [], 0⟩] scope gpos] [] pos) (tSumP X.K T KVV te) := by
  refine ⟨fun pins s σ H Q I h => ?_⟩
  refine wpAny_Call_Name_kw (ld_blt I hg hm boot_sum ?_)
  refine PyProof.Rows.callWith_builtin1 ?_ he (by rfl)
  rw [he]
  show wpAny _ _ (spliced ((false, eval (.GeneratorExp elt [⟨.Tuple [.Name xa pa, .Name xb pb] kt pt, iter, [], 0⟩] scope gpos) X.env) :: backTo pos (starEach [] X.env))) _ _ s
  refine Calls.spliced_cons (gen_pairs (T := T) (R := fun ns H1 => (∀ n ∈ ns, 0 ≤ n ∧ n < 2 ^ 40) ∧ ns.length < 2 ^ 20 ∧ ∀ H2, LamX.ExtN H1 H2 → LamX.Tabs T H2 → Q (.int ns.sum) H2) hr TB hcode hmT hu S Sb hab hi hel hst hKV hs I h fun ns H1 gn s5 hR hG => ?_)
  obtain ⟨fp, wr, G, F, St, W, hst5, hfp, _, _, hF, hI⟩ := hG
  obtain ⟨hb, hlen, hR⟩ := hR
  refine Calls.spliced_nil ?_
  have W1 := W.in4_1
  have hval : ∀ j n, ns[j]? = some n → ns.getD j 0 = n := fun j n e => by rw [List.getD_eq_getElem?_getD, e]; rfl
  have hps := preSum_sum ns (fun j => ns.getD j 0) hval
  refine call_sum_walkS (W1.self 0 _ _ _ hst5 ⟨gn, fp, wr, G, _, F, St, (fun j => ns.getD j 0), rfl, W1, hst5, hfp, fun j y hy => ?_, fun j hj => ?_, fun s' t' hmv => ?_⟩)
  · obtain ⟨n, t, hn, e⟩ := hF j y hy
    exact ⟨t, by rw [e]; show _ = Value.int (ns.getD j 0) t; rw [hval j n hn]⟩
  · have e : ns[j]? = some (ns[j]'hj) := List.getElem?_eq_getElem _
    obtain ⟨h1, h2⟩ := hb _ (List.mem_of_getElem? e)
    have hbt : ∀ n ∈ ns.take (j + 1), 0 ≤ n ∧ n < 2 ^ 40 := fun n hn => hb n (List.mem_of_mem_take hn)
    obtain ⟨h3, h4⟩ := sum_bnd hbt
    have h5 : (ns.take (j + 1)).length ≤ ns.length := by rw [List.length_take]; exact Nat.min_le_right _ _
    refine ⟨by show InLong (ns.getD j 0); rw [hval j _ e]; exact ⟨by omega, by omega⟩, by rw [hps (j + 1) hj]; exact ⟨by omega, by omega⟩⟩
  · obtain ⟨H2, hE, hT2, J⟩ := hI s' hmv
    refine ⟨.int ns.sum, H2, J, ⟨t', ?_⟩, hR H2 hE hT2⟩
    rw [hps ns.length (Nat.le_refl _), List.take_length]
end
end Ts


/-! CELL + len(a) + len(b) as the element of a sum. -/
namespace Ts
open PySem PySem.Spec PyProof.Rows L2
def KVlen (c : Int) : Heap → Value → Value → Int → Prop := fun h ua ub n => ∃ (a b : Addr) (ta tb : Array Value), ua = .ref a ∧ ub = .ref b ∧ h.IsTuple a ta ∧ h.IsTuple b tb ∧ (ta.size : Int) < 2 ^ 63 ∧ (tb.size : Int) < 2 ^ 63 ∧ n = c + ta.size + tb.size
theorem kvlen_st {c : Int} : ∀ h h' ua ub n, KVlen c h ua ub n → (∀ t its, h.IsTuple t its → h'.IsTuple t its) → KVlen c h' ua ub n := fun h h' ua ub n ⟨a, b, ta, tb, e1, e2, h1, h2, r⟩ k => ⟨a, b, ta, tb, e1, e2, k _ _ h1, k _ _ h2, r⟩
def KVVlen (K : PySem.W.Frag) (c : Int) : Hp → V → V → Int → Prop := fun H p q n => ∃ (a b : Addr) (xs ys : List V), p = .ref a ∧ q = .ref b ∧ SqT K H a xs ∧ SqT K H b ys ∧ n = c + xs.length + ys.length
theorem kvv_len {X : Cx} {c : Int} : ∀ pins s σ H p q n ua ub, Inv X pins σ H s → KVVlen X.K c H p q n → RelV p ua → RelV q ub → KVlen c s.heap ua ub n := fun pins s σ H p q n ua ub I ⟨a, b, xs, ys, e1, e2, h1, h2, e3⟩ r1 r2 => by
  subst e1; subst e2
  obtain rfl : ua = Value.ref a := r1
  obtain rfl : ub = Value.ref b := r2
  obtain ⟨i1, v1, t1, z1⟩ := I.tuple h1
  obtain ⟨i2, v2, t2, z2⟩ := I.tuple h2
  have hn := line63
  have l1 := v1.length
  have l2 := v2.length
  exact ⟨a, b, _, _, rfl, rfl, t1, t2, by simp only [List.size_toArray]; omega, by simp only [List.size_toArray]; omega, by rw [e3]; simp only [List.size_toArray]; omega⟩
theorem elt_len {X : Cx} {scope : Scope} {x : Str} {p2 p3 p4 : Pos} (hl : scope.names.lookup x = some .local) (hk : scope.kind = .function) (hd : (x == ("__debug__" : Str)) = false) (gL : ∀ cenv : Env, cenv.scope = scope → cenv.kindOf "len" = some .globalImplicit) (mL : X.mg "len" = none)
    {cenv : Env} {A' : Around} {E' : Value → Shared → Prop} {a : Addr} {ta : Array Value} {s₂ : Shared} {m₂ : Str → Option Value} {Q : Value → Shared → Prop} (M : Mod X.K X.mg X.base) (hs : cenv.scope = scope) (hg : cenv.globals = mainGlobals) (hb : cenv.builtins = builtinsNs)
    (kp : ∀ b o, X.base.get? b = some o → s₂.heap.get? b = some o) (ht : s₂.heap.IsTuple a ta) (hz : (ta.size : Int) < 2 ^ 63) (hn : s₂.heap.Ns cenv.locals m₂) (hm : m₂ x = some (.ref a)) (h : ∀ t k, Q (.int ta.size t) { s₂ with toks := k }) :
    wpAny (model X.prog X.w) A' (eval (.Call (.Name "len" p2) [.Name x p3] [] p4) cenv) Q E' s₂ := by
  obtain ⟨mb, h1, h2⟩ := M.blt
  refine wpAny_Call_Name_kw (Calls.Name_function_global (by rw [hs]; exact hk) (gL _ hs) (Calls.loadGlobal_builtin (by rw [hg]; exact M.glob.keeps kp) mL (by rw [hb]; exact h1.keeps kp) ((h2 "len" (by decide)).trans boot_len) ?_) (by decide))
  have he : starEach [.Name x p3] cenv = (false, eval (.Name x p3) cenv) :: starEach [] cenv := by rfl
  refine PyProof.Rows.callWith_builtin1 ?_ he (by rfl)
  rw [he]
  show wpAny _ _ (spliced ((false, eval (.Name x p3) cenv) :: backTo p4 (starEach [] cenv))) _ _ s₂
  refine Calls.spliced_cons (wpAny_Name (wpAny_loadName_local (by rw [hs]; exact hk) (show cenv.scope.names.lookup x = some .local by rw [hs]; exact hl) hn hm ?_) hd)
  refine Calls.spliced_nil ?_
  exact len_tuple ht hz (h _ _)
theorem elt_cell {X : Cx} {scope : Scope} {xa xb cn : Str} {c : Int} {p1 p2 p3 p4 p5 p6 p7 p8 p9 : Pos} (hk : scope.kind = .function) (hla : scope.names.lookup xa = some .local) (hlb : scope.names.lookup xb = some .local)
    (gC : ∀ cenv : Env, cenv.scope = scope → cenv.kindOf cn = some .globalImplicit) (gL : ∀ cenv : Env, cenv.scope = scope → cenv.kindOf "len" = some .globalImplicit) (mC : ∃ t, X.mg cn = some (.int c t)) (mL : X.mg "len" = none)
    (d1 : (xa == ("__debug__" : Str)) = false := by decide) (d2 : (xb == ("__debug__" : Str)) = false := by decide) (d3 : (cn == ("__debug__" : Str)) = false := by decide) :
    EltP X scope xa xb (.BinOp (.BinOp (.Name cn p1) .Add (.Call (.Name "len" p2) [.Name xa p3] [] p4) p5) .Add (.Call (.Name "len" p6) [.Name xb p7] [] p8) p9) (KVlen c) := by
  intro cenv A' E' ua ub n s₂ m₂ hA M hs hg hb kp hkv hn hma hmb
  obtain ⟨a, b, ta, tb, rfl, rfl, h1, h2, z1, z2, rfl⟩ := hkv
  obtain ⟨tc, mC⟩ := mC
  refine wpAny_BinOp (wpAny_BinOp (Calls.Name_function_global (by rw [hs]; exact hk) (gC _ hs) (Calls.loadGlobal_global (by rw [hg]; exact M.glob.keeps kp) mC ?_) d3))
  refine elt_len hla hk d1 gL mL M hs hg hb kp h1 z1 hn hma fun t k => ?_
  refine add_int ?_
  refine elt_len (s₂ := { s₂ with toks := k + 1 }) hlb hk d2 gL mL M hs hg hb kp h2 z2 hn hmb fun t' k' => ?_
  exact add_int ⟨⟨_, rfl⟩, GxR.keeps_tok s₂ _⟩
/-! ### by data -/
section
variable [Tt] {K : PySem.W.Frag} {E : L2.St → XK} {Δ : En} {te : TE} {X : Addr → Prop}
abbrev cellD (p : List D × List D) : D := .tup [.tup p.1, .tup p.2]
theorem ev_sumP {c : Int} {ps : List (List D × List D)} (h : Ev K E te Δ (· = .tup (ps.map cellD)) X) (hc : 0 ≤ c) (hb : ∀ p ∈ ps, c + p.1.length + p.2.length < 2 ^ 40) (hl : ps.length < 2 ^ 20) :
    Ev K E (tSumP K Tt.tb (KVVlen K c) te) Δ (· = .int (ps.map fun p => c + (p.1.length : Int) + (p.2.length : Int)).sum) X := fun q G0 H0 G H σ Q s k kx =>
  h q G0 H0 G H σ _ s (fun v d G1 H1 g1 r1 p1 => by
    subst p1
    obtain ⟨a, xs, rfl, hx, rl⟩ := r1.tup_inv
    have hlen : xs.length = ps.length := by rw [rl.length, List.length_map]
    refine ⟨a, xs, ps.map fun p => c + (p.1.length : Int) + (p.2.length : Int), rfl, st_ex g1.sub hx, by rw [List.length_map, hlen], fun j v n hv hn => ?_, (s.go g1).rs.tb, ⟨fun n hn => ?_, by rw [List.length_map]; exact hl, fun H2 e t => ?_⟩⟩
    · rw [List.getElem?_map] at hn
      obtain ⟨p, hp, rfl⟩ := Option.map_eq_some_iff.mp hn
      obtain ⟨d, hd, rd⟩ := rl.getV hv
      rw [List.getElem?_map, hp] at hd
      obtain rfl : cellD p = d := Option.some.inj hd
      obtain ⟨b, ys, rfl, hy, ry⟩ := rd.tup_inv
      cases ry with
      | cons ra rr =>
        cases rr with
        | cons rb rr =>
          cases rr
          obtain ⟨a1, us, rfl, hus, ru⟩ := ra.tup_inv
          obtain ⟨a2, ws, rfl, hws, rw_⟩ := rb.tup_inv
          exact ⟨b, _, _, rfl, st_ex g1.sub hy, a1, a2, us, ws, rfl, rfl, st_ex g1.sub hus, st_ex g1.sub hws, by rw [ru.length, rw_.length]⟩
    · obtain ⟨p, hp, rfl⟩ := List.mem_map.mp hn
      have := hb p hp
      exact ⟨by omega, by omega⟩
    · exact k _ _ G1 H2 (s.tr g1 (.tabs g1.sub e t)) (.int _) rfl) kx
end
end Ts


/-! Objects that are made once and stay as they are. -/
namespace Ts
open PySem L2
section
variable [Tt] {K : PySem.W.Frag} {E : L2.St → XK} {Δ : En} {te : TE} {X : Addr → Prop}
/-- an __init__ of data: self is new and empty, the end: its fields stand for fs -/
def spNew (K : PySem.W.Frag) (C : Addr) (pre : List D → Prop) (fs : List D → List (Str × D)) : Sp := fun vs H Q E => ∃ (G : Hp) (x dx : Addr) (ws : List V) (ds : List D), vs = .ref x :: ws ∧ H x = some (.ins C dx []) ∧ Nt G x ∧
  Exx G H ∧ TbOk H ∧ RpL K G ws ds ∧ pre ds ∧
  ∀ (G' H' : Hp) (dx' : Addr) (us : List (Str × V)), Exx G G' → (∀ a o, G' a = some o → G a = some o ∨ Nt H a) → Exx G' H' → (∀ a o, a ≠ x → H a = some o → (∀ ps, o ≠ HO.tbl ps) → H' a = some o) → TbOk H' → Nt G' x → H' x = some (.ins C dx' us) → RpF K G' us (fs ds) → Q .non H'
theorem ev_makeR {C : Addr} {tr : TA} {Rs : List D → Prop} {R : D → Prop} {pre : List D → Prop} {fs : List D → List (Str × D)} {E' : XK} (h : Ea K E tr Δ Rs X) (hp : ∀ ds, Rs ds → pre ds) (hr : ∀ ds, Rs ds → R (.obj C (fs ds))) :
    Ev K E (tMake C (spNew K C pre fs) [] E' tr) Δ R X := fun q G0 H0 G H σ Q s k kx =>
  h q G0 H0 G H σ _ s (fun vs ds' G1 H1 g1 r1 p1 => by
    intro x dx hx hdx hne
    have s1 := s.go g1
    have nG : ∀ {a : Addr}, H1 a = none → Nt G1 a := fun {a} ha o c => Classical.byContradiction fun n => by
      rw [g1.sub a o c (fun ps z => n ⟨ps, z⟩)] at ha; cases ha
    have nop : ∀ {a b : Addr} {o : HO}, H1 b = none → G1 a = some o → (∀ ps, o ≠ HO.tbl ps) → a ≠ b := fun {a b o} hb e nt z => by
      rw [z] at e
      obtain ⟨ps, h⟩ := nG hb _ e
      exact nt ps h
    rw [List.append_nil]
    refine ⟨G1, x, dx, vs, _, rfl, upd_same, nG hx, fun a o e nt => ?_, Tbd.new (by rw [upd_ne (fun z => hne z.symm)]; exact hx) (Tbd.new hdx s1.rs.tb), r1, hp _ p1, fun G' H' dx' us e1 nw e2 kp tb nx hx' rf => ⟨rfl, ?_⟩⟩
    · rw [upd_ne (nop hx e nt), upd_ne (nop hdx e nt)]
      exact g1.sub a o e nt
    · have exn : Exx G' (upd G' x (.ins C dx' us)) := fun a o e nt => by
        have : a ≠ x := fun z => by
          rw [z] at e
          obtain ⟨ps, h⟩ := nx _ e
          exact nt ps h
        rw [upd_ne this]; exact e
      have g : Gr none G1 H1 (upd G' x (.ins C dx' us)) H' := by
        refine ⟨e1.trans exn, fun a o e => ?_, fun a o e nt => ?_, fun a o _ e nt => ?_, fun _ => tb, fun _ z => nomatch z⟩
        · by_cases c : a = x
          · rw [c]; exact .inr (.of hx)
          · rw [upd_ne c] at e
            rcases nw a o e with h | h
            · exact .inl h
            · refine .inr fun o' e' => h o' ?_
              rw [upd_ne c]
              by_cases c2 : a = dx
              · rw [c2, hdx] at e'; cases e'
              · rw [upd_ne c2]; exact e'
        · by_cases c : a = x
          · rw [c, upd_same] at e
            rw [c, ← e]; exact hx'
          · rw [upd_ne c] at e
            exact e2 a o e nt
        · have c : a ≠ x := fun z => by rw [z, hx] at e; cases e
          have c2 : a ≠ dx := fun z => by rw [z, hdx] at e; cases e
          exact kp a o c (by rw [upd_ne c, upd_ne c2]; exact e) nt
      exact k _ _ _ H' (s.tr g1 g.any) (.obj upd_same (rf.ex exn)) (hr _ p1)) kx
theorem ev_make {C : Addr} {tr : TA} {ds : List D} {pre : List D → Prop} {fs : List D → List (Str × D)} {E' : XK} (h : Ea K E tr Δ (· = ds) X) (hp : pre ds) :
    Ev K E (tMake C (spNew K C pre fs) [] E' tr) Δ (· = .obj C (fs ds)) X := ev_makeR h (fun _ e => by rw [e]; exact hp) fun _ e => by rw [e]
/-- o.m(..) of a frozen object; the method raises nothing -/
theorem ev_meth {ta : TE} {tr : TA} {C : Addr} {m : Str} {fs : List (Str × D)} {ds : List D} {pre : List D → Prop} {post : List D → Res → Prop} {d : D} {E' : XK} (h : Ev K E ta Δ (· = .obj C fs) X) (hm : fs.lookup m = none) (ha : Ea K E tr Δ (· = ds) X)
    (hp : pre (.obj C fs :: ds)) (hr : ∀ e, post (.obj C fs :: ds) (.ret e) → e = d) (hx : ∀ B, post (.obj C fs :: ds) (.exc B) → False) : Ev K E (tMeth C m (spD K pre post) [] E' ta tr) Δ (· = d) X := fun q G0 H0 G H σ Q s k kx =>
  h q G0 H0 G H σ _ s (fun v o G1 H1 g1 r1 p1 => by
    subst p1
    have r1' := r1
    obtain ⟨a, dx, vs, rfl, hi, rf⟩ := r1.obj_inv
    refine ⟨a, dx, vs, rfl, g1.sub.i hi, rf.lookN hm, ?_⟩
    refine ha q G0 H0 G1 H1 σ _ (s.go g1) (fun us ds' G2 H2 g2 r2 p2 => ?_) fun C G' H' g x => kx C G' H' (s.tr g1 g) x
    subst p2
    have s2 := s.go (s.tr g1 g2)
    rw [List.append_nil]
    exact ⟨G2, _, g2.sub, s2.rs.tb, .cons (r1'.ex g2.ex) r2, hp, fun v e G' H' g rd po => k v e G' H' (s.tr (s.tr g1 g2) g.any) rd (hr e po), fun B G' H' g po => (hx B po).elim⟩) kx
/-- self.f = e within an __init__ -/
theorem sfld_step {Z : Ends} {x C dx : Addr} {f : Str} {vs : List (Str × V)} {d : D} {σ : L2.St} {G H : Hp} (hσ : σ[0]? = some (some (V.ref x))) (hx : H x = some (.ins C dx vs)) (nG : Nt G x) (st : Rs K none H G H σ Δ) (no : ∀ (i : Nat) (ds : Mu), Δ[i]? ≠ some (Sl.mu ds))
    (h : Ev K E te Δ (· = d) fun _ => False) (c : Cls K C) (n : NoAttr K C f) (l : vs.length < 1000)
    (k : ∀ (G' H' : Hp) (v : V), Exx G G' → (∀ a o, G' a = some o → G a = some o ∨ Nt H a) → Rs K none H' G' H' σ Δ → Nt G' x → (∀ a o, a ≠ x → H a = some o → (∀ ps, o ≠ HO.tbl ps) → H' a = some o) → H' x = some (.ins C dx (putF f v vs)) → Rp K G' v d → Z.nx σ H') :
    sFld K (tVar 0) te f Z σ H :=
  h none G H G H σ _ (.start st) (fun v e G1 H1 g1 r1 p1 => by
    subst p1
    have hx1 : H1 x = some (.ins C dx vs) := g1.keep x _ (by simp) hx (fun _ z => nomatch z)
    have n1 : Nt G1 x := fun o e => by
      rcases g1.nw x o e with z | z
      · exact nG o z
      · obtain ⟨ps, q⟩ := z _ hx
        cases q
    refine ⟨.ref x, hσ, x, C, dx, vs, rfl, hx1, c, n, l, ?_⟩
    have ex : Exx G1 (upd H1 x (.ins C dx (putF f v vs))) := fun a o e nt => by
      have : a ≠ x := fun z => by
        rw [z] at e
        obtain ⟨ps, q⟩ := n1 _ e
        exact nt ps q
      rw [upd_ne this]; exact g1.sub a o e nt
    have s1 := (Sta.start st).go g1
    have tb : TbOk (upd H1 x (.ins C dx (putF f v vs))) := fun p hp => by
      obtain ⟨ps, h1, h2, h3⟩ := s1.rs.tb p hp
      have ne : ∀ {a : Addr} {o : HO}, H1 a = some o → (∀ C dx vs, o ≠ .ins C dx vs) → a ≠ x := fun {a o} e q z => by
        rw [z, hx1] at e
        exact q _ _ _ (Option.some.inj e).symm
      refine ⟨ps, by rw [upd_ne (ne h1 (fun _ _ _ z => nomatch z))]; exact h1, h2, fun pos cv hc => ?_⟩
      obtain ⟨c, e1, e2⟩ := h3 pos cv hc
      exact ⟨c, e1, by rw [upd_ne (ne e2 (fun _ _ _ z => by unfold LamX.CodeO at z; cases z))]; exact e2⟩
    refine k G1 _ v g1.ex g1.nw ⟨ex, s1.rs.len, fun a e => (nomatch e), tb, s1.rs.dat, fun i ds e => absurd e (no i ds), fun i j ds es p e => absurd e (no i ds), s1.rs.dice⟩ n1 (fun a o c e nt => ?_) upd_same r1
    rw [upd_ne c]
    exact g1.keep a o (by simp) e nt) fun _ _ _ _ z => z.elim
end
/-! ### calls of classes and methods by name -/
section
open PySem.Spec PyProof.Rows
structure New (P : Program) (w : World) (K : PySem.W.Frag) (mg : Str → Option Value) (base : Heap) (k : Nat) (x : Str) (C : Addr) (sp : Sp) : Prop where
  ex : ∃ (f : Addr) (fd : FuncData) (ps : List Str), Mk K C f ∧ FnOk P w K mg base (L2.CX P w) k f fd ps sp ∧ mg x = some (.ref C) ∧ Binds K fd ps []
structure Mth (P : Program) (w : World) (K : PySem.W.Frag) (mg : Str → Option Value) (base : Heap) (k : Nat) (C : Addr) (m : Str) (sp : Sp) : Prop where
  ex : ∃ (f : Addr) (fd : FuncData) (ps : List Str), Cls K C ∧ Meth K C m f ∧ FnOk P w K mg base (L2.CX P w) k f fd ps sp ∧ Binds K fd ps []
abbrev XF : XK := fun _ _ _ => False
variable {X : Cx} {k j : Nat} {x m : Str} {C : Addr} {sp : Sp} {p pos apos : Pos} {o e : Expr} {es : List Expr} {t : TA} {ta : TE}
theorem passXF : Passes (L2.CX X.prog X.w) X XF := fun pins σ H s e s' I c => by
  obtain ⟨_, _, _, _, _, _, _, _, _, _, _, _, _, _, _, _, z⟩ := c
theorem pe_new (c : New X.prog X.w X.K X.mg X.base k x C sp) (hr : Room j X.A) (hk : k + 1 ≤ j) (hg : Gl X x) (ha : PA X (e :: es) t) (hdb : (x == ("__debug__" : Str)) = false := by decide) (he : starEach (e :: es) X.env = (false, eval e X.env) :: starEach es X.env := by rfl)
    (hpl : (backTo pos (starEach es X.env)).any (·.1) = false := by rfl) : PE X (.Call (.Name x p) (e :: es) [] pos) (tMake C sp [] XF t) := by
  obtain ⟨f, fd, ps, M, F, hm, b⟩ := c.ex
  exact pe_make M F (hr.mono hk) hg hm b .nil passXF ha hdb he hpl
theorem pe_mth0 {pl : Sem Bool} (c : Mth X.prog X.w X.K X.mg X.base k C m sp) (hr : Room j X.A) (hk : k ≤ j) (ho : PE X o ta)
    (ht : eval (.Call (.Attribute o m apos) [] [] pos) X.env = (do
      let ov ← eval o X.env
      standAt apos.atName
      let (f, first) ← holding [ov] (getMethod ov m pl)
      callWith pos f first (backTo pos (starEach [] X.env)) (backToKw pos (keywordEach [] X.env))) := by rfl) :
    PE X (.Call (.Attribute o m apos) [] [] pos) (tMeth C m sp [] XF ta tNil) := by
  obtain ⟨f, fd, ps, cl, M, F, b⟩ := c.ex
  exact pe_meth0 ho cl M F (hr.mono hk) b .nil passXF ht
end
/-! ### the promise of an __init__, by its body -/
section
open PySem.Spec PyProof.Rows
variable [Tt] {K : PySem.W.Frag} {P : Program} {w : World} {mg : Str → Option Value} {base : Heap} {x qual : Str} {params : Arguments} {body : List Stmt} {scope : Scope} {dvs : List V} {kws : List (Str × V)} {f : Addr} {fd : FuncData} {N ps : List Str} {k : Nat} {pre : List D → Prop} {C : Addr} {fs : List D → List (Str × D)}
theorem fn_new {t : WX → TS} (F : FunD K x qual params body scope dvs kws f fd) (S : FnScope N ps scope) (hp : ∀ ds, pre ds → ds.length + 1 = ps.length)
    (der : ∀ (cdv : Value) (A : Around) (outer : List Env) (s : Shared) (H : Hp) (E : XK), Room k (A.deeper (envOfC qual scope s.heap.objs.size f cdv)) → PSs (cxOf (L2.CX P w) P w K mg base N qual scope f cdv A outer s H E) body (t (wDef E)))
    (h : ∀ vs H Q E, spNew K C pre fs vs H Q E → t (wDef E) { nx := fun _ H' => Q .non H', rt := Q } (L2.start N vs) H) : FnOk P w K mg base (L2.CX P w) (k + 1) f fd ps (spNew K C pre fs) := by
  refine F.ok S (fun vs H Q E hsp => ?_) fun cdv A outer s H vs Q E hr hsp => ⟨t (wDef E), der cdv A outer s H E hr, h vs H Q E hsp⟩
  obtain ⟨G, x, dx, ws, ds, rfl, _, _, _, _, r, p, _⟩ := hsp
  rw [List.length_cons, r.length]; exact hp ds p
end
end Ts
namespace Ts
section
open PySem L2
variable [Tt] {K : PySem.W.Frag} {E : L2.St → XK} {Δ : En} {X : Addr → Prop}
/-- o.m(..), the promise a family -/
theorem ev_methI {ι : Type} {args : ι → List D} {pre : ι → Prop} {res : ι → Res} {ta : TE} {tr : TA} {C : Addr} {m : Str} {fs : List (Str × D)} {ds : List D} {d : D} {E' : XK} (i : ι) (h : Ev K E ta Δ (· = .obj C fs) X) (hm : fs.lookup m = none) (ha : Ea K E tr Δ (· = ds) X)
    (he : .obj C fs :: ds = args i) (hp : pre i) (hr : res i = .ret d) : Ev K E (tMeth C m (spI K args pre res) [] E' ta tr) Δ (· = d) X := fun q G0 H0 G H σ Q s k kx =>
  h q G0 H0 G H σ _ s (fun v o G1 H1 g1 r1 p1 => by
    subst p1
    have r1' := r1
    obtain ⟨a, dx, vs, rfl, hi, rf⟩ := r1.obj_inv
    refine ⟨a, dx, vs, rfl, g1.sub.i hi, rf.lookN hm, ?_⟩
    refine ha q G0 H0 G1 H1 σ _ (s.go g1) (fun us ds' G2 H2 g2 r2 p2 => ?_) fun C G' H' g x => kx C G' H' (s.tr g1 g) x
    subst p2
    have s2 := s.go (s.tr g1 g2)
    rw [List.append_nil]
    exact ⟨i, G2, g2.sub, s2.rs.tb, by rw [← he]; exact .cons (r1'.ex g2.ex) r2, hp, fun v e G' H' g rd po => k v e G' H' (s.tr (s.tr g1 g2) g.any) rd (by rw [hr] at po; injection po with po; exact po.symm), fun B G' H' g po => by rw [hr] at po; cases po⟩) kx
end
end Ts


/-! Promises of defs whose code object must be known; tables with different addresses. -/
namespace Ts
variable [Tt]
open PySem PySem.Spec PyProof.Rows L2
section
variable {P : Program} {w : World} {K : PySem.W.Frag} {mg : Str → Option Value} {base : Heap}
theorem fn_HW {x qual : Str} {params : Arguments} {body : List Stmt} {scope : Scope} {f : Addr} {fd : FuncData} {N ps : List Str} {k : Nat} {sp : Sp} {t : WX → TS} (F : FunD K x qual params body scope [] [] f fd) (S : FnScope N ps scope) (len : ∀ vs H Q E, sp vs H Q E → vs.length = ps.length)
    (der : ∀ (cdv : Value) (A : Around) (outer : List Env) (s : Shared) (H : Hp) (E : XK), fd.code = cdv → Room k (A.deeper (envOfC qual scope s.heap.objs.size f cdv)) → PSs (cxOf (L2.CX P w) P w K mg base N qual scope f cdv A outer s H E) body (t (wDef E)))
    (h : ∀ vs H Q E, sp vs H Q E → t (wDef E) { nx := fun _ H' => Q .non H', rt := Q } (L2.start N vs) H) : FnOk P w K mg base (L2.CX P w) (k + 1) f fd ps sp := by
  refine ⟨len, fun A outer s H args us vs Q E hr e0 hb r hsp => ?_⟩
  obtain ⟨oc, od, dV, kV, doc, pm, an, cdv, ct, osl, rfl, lk, hcd, _, _⟩ := F.ex
  exact LamX.run_ofS lk hcd S hr e0 hb r (len vs H Q E hsp) fun hr' => ⟨t (wDef E), der cdv A outer s H E rfl hr', h vs H Q E hsp⟩
theorem fn_IH {ι : Type} {args : ι → List D} {pre : ι → Prop} {res : ι → Res} {x qual : Str} {params : Arguments} {body : List Stmt} {scope : Scope} {f : Addr} {fd : FuncData} {N ps : List Str} {k : Nat} {t : WX → TS} (F : FunD K x qual params body scope [] [] f fd) (S : FnScope N ps scope) (hp : ∀ i, (args i).length = ps.length)
    (der : ∀ (cdv : Value) (A : Around) (outer : List Env) (s : Shared) (H : Hp) (E : XK), fd.code = cdv → Room k (A.deeper (envOfC qual scope s.heap.objs.size f cdv)) → PSs (cxOf (L2.CX P w) P w K mg base N qual scope f cdv A outer s H E) body (t (wDef E)))
    (h : ∀ (W : WX) i, pre i → Xs K W (t W) (argsE N (args i)) (fnR (res i))) : FnOk P w K mg base (L2.CX P w) (k + 1) f fd ps (spI K args pre res) := by
  have hNl : ps.length ≤ N.length := by have := congrArg List.length S.pre; rw [List.length_take] at this; omega
  refine fn_HW F S (fun vs H Q E hsp => ?_) der fun vs H Q E hsp => ?_
  · obtain ⟨i, G, _, _, r, _⟩ := hsp
    rw [r.length]; exact hp i
  · obtain ⟨i, G, e, tb, r, p, k1, k2⟩ := hsp
    have hl : (args i).length ≤ N.length := by rw [hp i]; exact hNl
    exact h (wDef E) i p none G H G H (L2.start N vs) _ (sta_args e tb r hl) (fun σ' Δ' G' H' e' s' q => k1 .non .non G' H' s'.gr .non q) (fun v d G' H' g rv q => k1 v d G' H' g rv (q.rt fun _ _ z => z)) (fun _ _ _ _ _ _ z => False.elim z) (fun _ _ _ _ _ _ z => False.elim z) fun C σ' Δ' G' H' e' s' q => k2 C G' H' s'.gr q
theorem fn_QH {pre : List D → Prop} {post : List D → Res → Prop} {x qual : Str} {params : Arguments} {body : List Stmt} {scope : Scope} {f : Addr} {fd : FuncData} {N ps : List Str} {k : Nat} {t : WX → TS} (F : FunD K x qual params body scope [] [] f fd) (S : FnScope N ps scope) (hp : ∀ ds, pre ds → ds.length + 1 = ps.length)
    (der : ∀ (cdv : Value) (A : Around) (outer : List Env) (s : Shared) (H : Hp) (E : XK), fd.code = cdv → Room k (A.deeper (envOfC qual scope s.heap.objs.size f cdv)) → PSs (cxOf (L2.CX P w) P w K mg base N qual scope f cdv A outer s H E) body (t (wDef E)))
    (h : ∀ (W : WX) ds, pre ds → Xs K W (t W) (argsQ N ds) (fnP post ds)) : FnOk P w K mg base (L2.CX P w) (k + 1) f fd ps (spQ K pre post) := by
  have hNl : ps.length ≤ N.length := by have := congrArg List.length S.pre; rw [List.length_take] at this; omega
  refine fn_HW F S (fun vs H Q E hsp => ?_) der fun vs H Q E hsp => ?_
  · obtain ⟨G, a, ws, ds, rfl, _, _, _, _, r, p, _⟩ := hsp
    rw [List.length_cons, r.length]; exact hp ds p
  · obtain ⟨G, a, ws, ds, rfl, e, n, dq, tb, r, p, k1, k2⟩ := hsp
    have hl : ds.length + 1 ≤ N.length := by rw [hp ds p]; exact hNl
    exact h (wDef E) ds p (some a) G H G H (L2.start N (.ref a :: ws)) _ (sta_argsQ e n dq tb r hl) (fun σ' Δ' G' H' e' s' q => k1 .non .non G' H' s'.gr .non q) (fun v d G' H' g rv q => k1 v d G' H' g rv (q.rt fun _ _ z => z)) (fun _ _ _ _ _ _ z => False.elim z) (fun _ _ _ _ _ _ z => False.elim z) fun C σ' Δ' G' H' e' s' q => k2 C G' H' s'.gr q
end
/-- tables at different addresses -/
theorem hu_of {T : Tb} (nd : (T.map (·.1)).Nodup) {P : Addr} {q : Str} (h : (P, q) ∈ T) : ∀ p ∈ T, p.1 = P → p.2 = q := by
  induction T with
  | nil => cases h
  | cons a T ih =>
    rw [List.map_cons, List.nodup_cons] at nd
    intro p hp e
    rcases List.mem_cons.mp h with z | z
    · rcases List.mem_cons.mp hp with y | y
      · rw [y, ← z]
      · refine absurd ?_ nd.1
        rw [← z, show ((P, q) : Addr × Str).1 = p.1 from e.symm]
        exact List.mem_map.mpr ⟨p, y, rfl⟩
    · rcases List.mem_cons.mp hp with y | y
      · refine absurd ?_ nd.1
        rw [← y, e]
        exact List.mem_map.mpr ⟨(P, q), z, rfl⟩
      · exact ih nd.2 z p y e
end Ts


/-! Generator expressions whose elements are read like any expression (calls of defs among them, that raise nothing): a generator that has not begun (HandS.GenList PGen). -/
namespace Ts
open PySem PySem.Spec PyProof.Rows L2 GenW
/-- the generator expression's scope: its own names are of the def's table of names -/
structure GBlk (N : List Str) (sc scope : Scope) (own : List (Str × Nat)) : Prop where
  kind : scope.kind = .function
  co : scope.isCoroutine = false
  uniq : ∀ y ∈ scope.names, scope.names.lookup y.1 = some y.2
  dot : scope.names.lookup (".0" : Str) = some NameKind.local
  ndot : (".0" : Str) ∉ N
  loc : ∀ y ∈ scope.names, y.2 = .local ∨ y.2 = .cell → y.1 = ".0" ∨ ∃ i, (y.1, i) ∈ own
  own : ∀ p ∈ own, N[p.2]? = some p.1
  free : ∀ y ∈ scope.names, y.2 = .free → sc.names.lookup y.1 = some .cell ∨ sc.names.lookup y.1 = some .free
def gblkB (N : List Str) (sc scope : Scope) (own : List (Str × Nat)) : Bool :=
  decide (scope.kind = .function) && !scope.isCoroutine && decide (scope.names.lookup (".0" : Str) = some NameKind.local) && !N.contains (".0" : Str) && (own.all fun p => decide (N[p.2]? = some p.1)) &&
    scope.names.all fun y => decide (scope.names.lookup y.1 = some y.2) && (!decide (y.2 = .local ∨ y.2 = .cell) || decide (y.1 = ".0") || own.any fun p => decide (p.1 = y.1)) && (!decide (y.2 = .free) || decide (sc.names.lookup y.1 = some .cell) || decide (sc.names.lookup y.1 = some .free))
theorem gblk_by {N : List Str} {sc scope : Scope} {own : List (Str × Nat)} (h : gblkB N sc scope own = true) : GBlk N sc scope own := by
  unfold gblkB at h
  simp only [Bool.and_eq_true, Bool.or_eq_true, Bool.not_eq_true', decide_eq_true_eq, decide_eq_false_iff_not, List.all_eq_true] at h
  obtain ⟨⟨⟨⟨⟨h1, h2⟩, h3⟩, h4⟩, h5⟩, h6⟩ := h
  refine ⟨h1, h2, fun y hy => (h6 y hy).1.1, h3, fun z => ?_, fun y hy e => ?_, h5, fun y hy e => ?_⟩
  · rw [List.contains_iff_mem.mpr z] at h4
    cases h4
  · rcases (h6 y hy).1.2 with (z | z) | z
    · exact absurd e z
    · exact .inl z
    · obtain ⟨p, hp, e2⟩ := List.any_eq_true.mp z
      have e3 : p.1 = y.1 := of_decide_eq_true e2
      exact .inr ⟨p.2, by rw [← e3]; exact hp⟩
  · rcases (h6 y hy).2 with (z | z) | z
    · exact absurd e z
    · exact .inl z
    · exact .inr z
/-- the frame of a generator expression: cells of its own ahead of the one name that is bound -/
theorem frame_cells {M : Model} {A : Around} {E : Value → Shared → Prop} {s : Shared} {scope : Scope} {globals bi : Addr} {cl : List (Str × Addr)} {qual : Str} {code it : Value} {Q : Env → Shared → Prop} (hk : scope.kind = .function) (h0 : scope.names.lookup (".0" : Str) = some NameKind.local)
    (hQ : ∀ h', h'.Ns s.heap.objs.size (fun y => if y = ".0" then some it else none) → Heap.SameBut s.heap.objs.size (pushCells (s.heap.push { cls := .type "frame", data := .dict #[] }) scope.names) h' →
      Q (newEnv scope s.heap.objs.size globals (cellsFrom (s.heap.objs.size + 1) scope.names cl) qual none code none bi) { s with heap := h', toks := s.toks + 1 }) :
    wpAny M A (newFunctionEnv scope globals cl [(".0", it)] qual none code none bi) Q E s := by
  simp only [newFunctionEnv, Option.isSome_none, Bool.false_eq_true, if_false]
  refine wpAny_bind (wpAny_alloc ?_)
  refine wpAny_bind (wpAny_layCells _ (fun n k c => by cases q : k == NameKind.cell <;> simp [q]) scope.names cl _ _ ?_)
  rw [show ({ s with heap := s.heap.push { cls := .type "frame", data := .dict #[] } } : Shared).heap.objs.size = s.heap.objs.size + 1 from Heap.size_push ..]
  rw [List.forIn_cons]
  have hn0 : (pushCells (s.heap.push { cls := .type "frame", data := .dict #[] }) scope.names).Ns s.heap.objs.size (fun _ => none) := (Heap.Ns.new s.heap (.type "frame")).keeps (pushCells_keeps _ _)
  have hst : ∀ v, storeName (newEnv scope s.heap.objs.size globals (cellsFrom (s.heap.objs.size + 1) scope.names cl) qual none code none bi) ".0" v = nsSet s.heap.objs.size ".0" v := fun v =>
    storeName_local (env := newEnv scope s.heap.objs.size globals (cellsFrom (s.heap.objs.size + 1) scope.names cl) qual none code none bi) h0 (by
      show (scope.kind == .class || (scope.kind == .module && _)) = false
      rw [hk]; rfl) v
  show wpAny _ _ ((((storeName (newEnv scope s.heap.objs.size globals (cellsFrom (s.heap.objs.size + 1) scope.names cl) qual none code none bi) ".0" it) >>= _) >>= _) >>= _) _ _ _
  rw [hst]
  refine wpAny_bind (wpAny_bind (wpAny_bind (wpAny_nsSet hn0 fun h' n' sb => wpAny_pure ?_)))
  show wpAny _ _ (forIn ([] : List (Str × Value)) _ _) _ _ _
  rw [List.forIn_nil]
  exact wpAny_pure (wpAny_pure (hQ h' n' sb))
theorem gen_make {M : Model} {A : Around} {E : Value → Shared → Prop} {s : Shared} {env : Env} {elt target iter : Expr} {ifs : List Expr} {scope : Scope} {cl : List (Str × Addr)} {pos : Pos} {Q : Value → Shared → Prop}
    (hco : scope.isCoroutine = false) (hclos : closureFor scope env = pure cl) (h0 : scope.names.lookup (".0" : Str) = some NameKind.local) (hkind : scope.kind = .function) (hroom : A.depth < recursionLimit)
    (h : wpAny M A (eval iter env) (fun xv s₁ => wpAny M A (pyIter xv) (fun it s₂ => s₂.heap.NoLimit ∧
      wpAny M A (genexprCode env pos (env.qual ++ "<genexpr>") scope) (fun code s₃ => wpAny M A (builtinsFor env.globals env.builtins) (fun bi s₄ =>
        ∀ h', h'.Ns s₄.heap.objs.size (fun y => if y = ".0" then some it else none) → Heap.SameBut s₄.heap.objs.size (pushCells (s₄.heap.push { cls := .type "frame", data := .dict #[] }) scope.names) h' →
          Q (.ref h'.objs.size) { s₄ with
            gens := s₄.gens.push (.fresh (.compStart (.GeneratorExp elt [⟨target, iter, ifs, 0⟩] scope pos) 0 it .none (genEnv scope (cellsFrom (s₄.heap.objs.size + 1) scope.names cl) s₄.heap.objs.size code bi env))),
            toks := s₄.toks + 1 + 1 + 1,
            heap := h'.push { cls := .type "generator", data := .fields #[.int s₄.gens.size 0, .str "<genexpr>" (s₄.toks + 1), .str (env.qual ++ "<genexpr>") (s₄.toks + 1 + 1)] } }) E s₃) E s₂) E s₁) E s)
    (hs : ∀ x, genFold iter env x = pure x) : wpAny M A (eval (.GeneratorExp elt [⟨target, iter, ifs, 0⟩] scope pos) env) Q E s := by
  rw [eval_GeneratorExp1 _ _ _ _ _ _ _ hco, hclos]
  refine wpAny_bind (thn h fun xv s1 h1 => wpAny_bind (wpAny_standAt ?_))
  refine wpAny_bind (wpAny_of_eq (hs xv) (wpAny_bind (wpAny_holding (thn h1 fun it s2 h2 => ?_))))
  refine wpAny_bind (wpAny_enterFrame h2.1 hroom (wpAny_bind (wpAny_pure ?_)))
  refine wpAny_bind (thn h2.2 fun code s3 h3 => wpAny_bind (thn h3 fun bi s4 h4 => wpAny_bind (frame_cells hkind h0 fun h' n' sb => ?_)))
  simp only [newGenerator, newFields]
  exact wpAny_bind (wpAny_newGen (wpAny_bind (wpAny_mkText (wpAny_bind (wpAny_mkText (wpAny_newObj_type (h4 h' n' sb) (by size_fits)))))))
/-- the context of its frame -/
def genX (X : Cx) (A : Around) (s : Shared) (H : Hp) (ex : List Addr) (env : Env) (pn : List (Addr × Obj)) : Cx where
  prog := X.prog
  w := X.w
  K := X.K
  mg := X.mg
  base := X.base
  A := A.deeper env
  N := X.N
  s_0 := s
  H_0 := H
  env := env
  outer := X.stack
  stack := env :: X.stack
  ex := ex
  fn := fun x => env.scope.names.lookup x == some .cell
  calm := true
  pn := pn
  xe := fun _ _ => False
abbrev gEnv (X : Cx) (scope : Scope) (C : Addr) (code : Value) : Env := genEnv scope (cellsFrom (C + 1) scope.names (cloFrom X.env.cells scope.names [])) C code builtinsNs X.env
theorem over_gen {A : Around} {elt : Expr} {gs : List Comprehension} {scope : Scope} {pos : Pos} {it acc : Value} {env : Env} : A.over (.compLoop (.GeneratorExp elt gs scope pos) 0 it acc env) [] = A.deeper env := by
  first
    | rfl
    | (obtain ⟨hd, d, fr, gs, u⟩ := A; simp [Around.over, Around.deeper, marksOver, frameCount, unitsOf, envsOf, guardsOf, pushEnvs, pushGuards, Code.envs, Code.env?, Code.isFrame, Code.guards, Code.isGuard, Code.weight, Code.frames, Code.isCreation, Code.isCaller, Code.cUnits])
theorem over_gen0 {A : Around} {elt : Expr} {gs : List Comprehension} {scope : Scope} {pos : Pos} {it acc : Value} {env : Env} : A.over (.compStart (.GeneratorExp elt gs scope pos) 0 it acc env) [] = A.deeper env := by
  first
    | rfl
    | (obtain ⟨hd, d, fr, gs, u⟩ := A; simp [Around.over, Around.deeper, marksOver, frameCount, unitsOf, envsOf, guardsOf, pushEnvs, pushGuards, Code.envs, Code.env?, Code.isFrame, Code.guards, Code.isGuard, Code.weight, Code.frames, Code.isCreation, Code.isCaller, Code.cUnits])
section
variable {X : Cx} {pins : List (Addr × Obj)} {σ : L2.St} {H : Hp} {s : Shared}
theorem gen_start {A : Around} {scope : Scope} {own : List (Str × Nat)} {fp : List Addr} {code : Value} {it : Value} {h₁ : Heap} {tk : Nat} {gs : Array GenState} (I : Inv X pins σ H s) (hN : X.N.Nodup) (B : GBlk X.N X.env.scope scope own) (hex : ∀ b ∈ fp, FpOk X pins H b ∧ b < s.heap.objs.size) (hd : A.handled = none) (hfr : A.frames = some X.stack)
    (hns : h₁.Ns s.heap.objs.size (fun y => if y = ".0" then some it else none)) (kx : ∀ b o, b ≠ s.heap.objs.size → (pushCells (s.heap.push { cls := .type "frame", data := .dict #[] }) scope.names).get? b = some o → h₁.get? b = some o) (hb : AllBare gs) :
    Inv (genX X A s H fp (gEnv X scope s.heap.objs.size code) []) [] (wipe σ (own.map (·.2))) H { s with gens := gs, heap := h₁, toks := tk } := by
  have e0 := I.env0
  have kp : ∀ b o, s.heap.get? b = some o → h₁.get? b = some o := fun b o e => kx b o (Nat.ne_of_lt (Heap.lt_size e)) (pushCells_keeps _ _ _ _ (Heap.get?_push_of_some _ e))
  have hfree : ∀ y ∈ scope.names, y.2 = .free → ∃ c, X.env.cells.lookup y.1 = some c := fun y hy e => by
    rcases B.free y hy e with k | k
    · exact I.ok.has _ (.inl k)
    · exact I.ok.has _ (.inr k)
  generalize hcs : cellsFrom (s.heap.objs.size + 1) scope.names (cloFrom X.env.cells scope.names []) = cs
  have ge : gEnv X scope s.heap.objs.size code = genEnv scope cs s.heap.objs.size code builtinsNs X.env := by rw [← hcs]
  rw [ge]
  rw [← Heap.size_push s.heap { cls := .type "frame", data := .dict #[] }] at hcs
  have old : ∀ {y c}, (y, c) ∈ cloFrom X.env.cells scope.names [] → X.env.cells.lookup y = some c ∧ c < s.heap.objs.size ∧ (y, NameKind.free) ∈ scope.names := fun {y c} hm => by
    rcases cloFrom_mem hm with hm | ⟨h1, h2⟩
    · cases hm
    · obtain ⟨c1, hc⟩ := hfree _ h1 rfl
      have hc : X.env.cells.lookup y = some c1 := hc
      have e2 : c = c1 := by rw [h2, hc] <;> rfl
      rw [e2]
      obtain ⟨w', z⟩ := I.cell y c1 hc
      exact ⟨hc, z.lt, h1⟩
  have cm : ∀ {y c}, cs.lookup y = some c → (X.env.cells.lookup y = some c ∧ c < s.heap.objs.size ∧ (y, NameKind.free) ∈ scope.names) ∨ ((y, NameKind.cell) ∈ scope.names ∧ s.heap.objs.size + 1 ≤ c ∧ CellAt (pushCells (s.heap.push { cls := .type "frame", data := .dict #[] }) scope.names) c none) := fun {y c} e => by
    rw [← hcs] at e
    rcases cells_mem (PySem.mem_of_lookup e) with hm | ⟨h1, h2, h3⟩
    · exact .inl (old hm)
    · rw [Heap.size_push] at h2
      exact .inr ⟨h1, h2, h3⟩
  have look : ∀ {y}, scope.names.lookup y = some .free → ∃ c, cs.lookup y = some c ∧ X.env.cells.lookup y = some c := fun {y} hl => by
    have hy : (y, NameKind.free) ∈ scope.names := PySem.mem_of_lookup hl
    obtain ⟨c, e⟩ := mem_lookup (cells_acc (names := scope.names) (n := (s.heap.push { cls := .type "frame", data := .dict #[] }).objs.size) (cloFrom_has (cells := X.env.cells) (acc := []) hy))
    rw [hcs] at e
    refine ⟨c, e, ?_⟩
    rcases cm e with ⟨q, _⟩ | ⟨q, _⟩
    · exact q
    · have := B.uniq _ q
      rw [hl] at this; cases this
  have cellK : ∀ {c : Addr} {v : Option Value}, s.heap.IsCell c v → h₁.IsCell c v := fun {c v} ⟨o, ho, hd⟩ => ⟨o, kp _ _ ho, hd⟩
  refine ⟨⟨e0.mod, B.kind, I.ok.glob, rfl, Nat.le_refl _, fun y z c e1 e2 => ?_, fun y hy => ?_, fun y c z e => ?_, fun _ => hd, Around.frames_deeper hfr, .inr ⟨rfl, rfl⟩, fun b z => ?_, e0.bs, e0.bsz, fun b o hbo z => ?_,
      fun b z => ?_, e0.funs, e0.frf⟩,
    rfl, hb, Un.kept kp, ⟨_, hns, fun i y v e1 e2 e3 => ?_⟩, fun y c e => ?_, e0.hok.fresh (Nat.le_refl _), fun y c e => ?_, fun q hq => absurd (show q ∈ ([] : List (Addr × Obj)) ++ [] from hq) (by simp), e0.hok.kept kp, (wipe_length _ _).trans I.len⟩
  · have e1 : cs.lookup y = some c := e1
    have e2 : cs.lookup z = some c := e2
    rw [← hcs] at e1 e2
    refine cells_inj (fun p hp => ?_) (fun y z c a b => I.ok.inj y z c (old a).1 (old b).1) (PySem.mem_of_lookup e1) (PySem.mem_of_lookup e2)
    rw [Heap.size_push]
    exact Nat.lt_succ_of_lt (old (y := p.1) (c := p.2) hp).2.1
  · show ∃ c, cs.lookup y = some c
    have hy : scope.names.lookup y = some .cell ∨ scope.names.lookup y = some .free := hy
    rcases hy with hy | hy
    · obtain ⟨c, hm⟩ := cells_has (n := (s.heap.push { cls := .type "frame", data := .dict #[] }).objs.size) (acc := cloFrom X.env.cells scope.names []) (PySem.mem_of_lookup hy)
      obtain ⟨c', e'⟩ := mem_lookup hm
      exact ⟨c', by rw [← hcs]; exact e'⟩
    · obtain ⟨c, e, _⟩ := look hy
      exact ⟨c, e⟩
  · have z : (scope.names.lookup y == some NameKind.cell) = true := z
    have z : scope.names.lookup y = some .cell := by simpa using z
    rcases cm (show cs.lookup y = some c from e) with ⟨_, _, q⟩ | ⟨_, q, _⟩
    · have q := B.uniq _ q
      rw [z] at q; cases q
    · exact Nat.le_of_succ_le q
  · obtain ⟨⟨_, _, _, _, f4, _⟩, hlt⟩ := hex b z
    refine ⟨Nat.ne_of_lt hlt, fun y c e q => ?_⟩
    rcases cm (show cs.lookup y = some c from e) with ⟨g, _⟩ | ⟨_, g, _⟩
    · exact f4 y c g q
    · rw [q] at g
      exact absurd (Nat.lt_of_lt_of_le hlt (Nat.le_of_succ_le g)) (Nat.lt_irrefl _)
  · obtain ⟨⟨_, _, _, f3, _, _⟩, _⟩ := hex b z
    rcases f3 with q | q
    · exact I.ok.noex b o hbo q
    · have := Heap.lt_size hbo
      exact absurd (Nat.lt_of_lt_of_le this (Nat.le_trans I.ok.bsz q)) (Nat.lt_irrefl _)
  · obtain ⟨⟨_, f1, f2, _, _, _⟩, _⟩ := hex b z
    intro hm
    rcases List.mem_cons.mp (I.stkSub b hm) with q | q
    · exact f1 q
    · exact f2 q
  · have e3 : Vis scope y := e3
    obtain ⟨e2a, e2b⟩ := wipe_some e2
    have mine : ∀ k, (y, k) ∈ scope.names → (k = .local ∨ k = .cell) → False := fun k hk hk' => by
      rcases B.loc _ hk hk' with z | ⟨j, hj⟩
      · have z : y = ".0" := z
        exact B.ndot (List.mem_of_getElem? (by rw [← z]; exact e1))
      · have e4 := B.own _ hj
        have e5 : i = j := nodup_ix hN e1 e4
        exact e2b (List.mem_map.mpr ⟨_, hj, e5.symm⟩)
    rcases e3 with k | k | k
    · exact (mine _ (PySem.mem_of_lookup k) (.inl rfl)).elim
    · exact (mine _ (PySem.mem_of_lookup k) (.inr rfl)).elim
    · obtain ⟨m, hn, hl⟩ := I.loc
      have hvis : Vis X.env.scope y := (B.free _ (PySem.mem_of_lookup k) rfl).elim (fun k => .inr (.inl k)) (fun k => .inr (.inr k))
      obtain ⟨w', r, q⟩ := hl i y v e1 e2a hvis
      obtain ⟨c2, h2, c1⟩ := look k
      refine ⟨w', r, .inr ⟨.inr k, c2, h2, ?_⟩⟩
      rcases q with ⟨k', _⟩ | ⟨_, c3, e', z⟩
      · have k' : X.env.scope.names.lookup y = some .local := k'
        rcases B.free _ (PySem.mem_of_lookup k) rfl with k2 | k2 <;> rw [show X.env.scope.names.lookup y = _ from k2] at k' <;> cases k'
      · rw [c1] at e'
        cases e'
        exact cellK z
  · rcases cm (show cs.lookup y = some c from e) with ⟨q, _⟩ | ⟨_, g, o, ho, hc⟩
    · obtain ⟨w', z⟩ := I.cell y c q
      exact ⟨w', cellK z⟩
    · exact ⟨none, o, kx c o (Nat.ne_of_gt g) ho, hc⟩
  · rcases cm (show cs.lookup y = some c from e) with ⟨q, _⟩ | ⟨_, g, _⟩
    · exact I.freeC y c q
    · exact I.hok.fresh (Nat.le_of_succ_le g)
/-- the reading: what is handed out, the heap at the end -/
def tGe (T : Tb) (wi : TI) (g : TG) (tt : TT) (te : TE) (vs : List Nat) : TGen := fun σ H cont => wi σ H fun J H1 => LamX.Tabs T H1 ∧ ∀ H2, LamX.ExtN H1 H2 → LamX.Tabs T H2 → ∃ W : Nat → Nat → List V → Hp → Prop, (∃ m, W 0 m [] H2) ∧ ∀ i m ys H, W i m ys H →
  (J.stop i H ∧ ys.length ≤ sizeLine ∧ cont ys H) ∨ (J.go i H ∧ ∃ Nx : List V → Hp → Prop, (∀ ys' H', Nx ys' H' → ∃ m', m' < m ∧ W (i + 1) m' ys' H') ∧ ∀ x H', J.yld i H x H' → g x (wipe σ vs) H' fun σ2 H2 => wipe σ2 vs = wipe σ vs ∧ tt σ2 H2 fun b H3 =>
    if b = true then te σ2 H3 fun y H4 => ys.length < sizeLine ∧ Nx (ys ++ [y]) H4 else Nx ys H3)
/-- the turns -/
theorem ge_loop {Aw : Around} {scope : Scope} {fp : List Addr} {code : Value} {C : Addr} {s3 : Shared} {H3 : Hp} {it : Addr} {tn : Nat → Heap → Prop} {J : It} {elt tg iter : Expr} {ifs : List Expr} {pos : Pos} {g : TG} {tt : TT} {te : TE} {vs : List Nat} {S a : Addr} {gi : Nat} {go : Obj} {Q : List V → Hp → Prop}
    {W : Nat → Nat → List V → Hp → Prop} (T : Turn X.prog X.w X.K tg J fp it tn) (hgen : ∀ h : Heap, h.get? a = some go → h.IsGen a gi) (hco : scope.isCoroutine = false) (hSfp : S ∉ fp) (hafp : a ∉ fp) (haS : a ≠ S) (hA : Apart (genX X Aw s3 H3 fp (gEnv X scope C code) [(a, go)]) S)
    (pg : PG (genX X Aw s3 H3 fp (gEnv X scope C code) [(a, go)]) tg g) (pt : PTs (genX X Aw s3 H3 fp (gEnv X scope C code) [(a, go)]) ifs tt) (pe : PE (genX X Aw s3 H3 fp (gEnv X scope C code) [(a, go)]) elt te)
    (turn : ∀ i m ys H, W i m ys H → (J.stop i H ∧ ys.length ≤ sizeLine ∧ Q ys H) ∨ (J.go i H ∧ ∃ Nx : List V → Hp → Prop, (∀ ys' H', Nx ys' H' → ∃ m', m' < m ∧ W (i + 1) m' ys' H') ∧ ∀ x H', J.yld i H x H' → g x (wipe σ vs) H' fun σ2 H2 => wipe σ2 vs = wipe σ vs ∧ tt σ2 H2 fun b H3 =>
      if b = true then te σ2 H3 fun y H4 => ys.length < sizeLine ∧ Nx (ys ++ [y]) H4 else Nx ys H3)) :
    ∀ (m i n : Nat) (ys : List V) (H : Hp) (s₀ s : Shared), W i m ys H → n + ys.length = sizeLine → GI (genX X Aw s3 H3 fp (gEnv X scope C code) [(a, go)]) S [] ys (wipe σ vs) H s → tn i s.heap → (∀ b ∈ fp, H b = none) →
      Seg (model X.prog X.w) Aw (REnd X.prog X.w X.stack H3 s3 fp S a gi Q XF) (YItem s3 S a gi) n s₀ (.compLoop (.GeneratorExp elt [⟨tg, iter, ifs, 0⟩] scope pos) 0 (.ref it) .none (gEnv X scope C code)) ((model X.prog X.w).den (.compLoop (.GeneratorExp elt [⟨tg, iter, ifs, 0⟩] scope pos) 0 (.ref it) .none (gEnv X scope C code))) [] s := by
  have ov : Aw.over (.compLoop (.GeneratorExp elt [⟨tg, iter, ifs, 0⟩] scope pos) 0 (.ref it) .none (gEnv X scope C code)) [] = (genX X Aw s3 H3 fp (gEnv X scope C code) [(a, go)]).A := over_gen
  have hpn : ∀ p ∈ (genX X Aw s3 H3 fp (gEnv X scope C code) [(a, go)]).pn, p.1 ≠ S := fun p hp => by
    rw [List.mem_singleton.mp (show p ∈ [(a, go)] from hp)]; exact haS
  have stat : ∀ {σ' : L2.St} {H' : Hp} {s' : Shared} {o : Obj}, Inv (genX X Aw s3 H3 fp (gEnv X scope C code) [(a, go)]) [(S, o)] σ' H' s' → (∀ b ∈ fp, H' b = none) → ∀ b ∈ fp, FpOk (genX X Aw s3 H3 fp (gEnv X scope C code) [(a, go)]) [(S, o)] H' b := fun {σ' H' s' o} I' hn b hb =>
    ⟨hn b hb, (I'.ok.exf b hb).1, I'.ok.exfs b hb, .inl hb, fun x c e => (I'.ok.exf b hb).2 x c e, fun p hp => by
      rcases List.mem_append.mp hp with z | z
      · rw [List.mem_singleton.mp (show p ∈ [(a, go)] from z)]; exact fun e => hafp (by rw [show a = b from e]; exact hb)
      · rw [List.mem_singleton.mp z]; exact fun e => hSfp (by rw [show S = b from e]; exact hb)⟩
  intro m
  induction m using Nat.strongRecOn with
  | ind m ih =>
    intro i n ys H s₀ s w5 hn hG st n5
    obtain ⟨acc, cc, ra, I5⟩ := hG
    show Seg _ Aw _ _ _ s₀ _ ((compTurn (.GeneratorExp elt [⟨tg, iter, ifs, 0⟩] scope pos) 0 (.ref it) .none (gEnv X scope C code)).onRaise (leaving (gEnv X scope C code))) [] s
    rw [compTurn_gen, Sem.onRaise_eq_wrap]
    refine seg_bind_wrap (wpAny_standAt ?_)
    rcases turn i m ys H w5 with ⟨stop, hle, qq⟩ | ⟨go', Nx, hNx, step⟩
    · have td := T.done (genX X Aw s3 H3 fp (gEnv X scope C code) [(a, go)]) rfl rfl rfl rfl i _ s _ H (fun _ _ => False) I5 (stat I5 n5) st stop
      refine seg_bind_wrap ?_
      rw [ov]
      refine thnF td fun r s6 h6 => ?_
      obtain ⟨hr, I6⟩ := h6
      subst hr
      obtain ⟨p1, p2, _⟩ := I6.pin (S, lstObj acc cc) (List.mem_append_right _ List.mem_cons_self)
      exact seg_end (.ok .next) (.inl ⟨.inr rfl, H, ys, acc, cc, I6.os, I6.bare, I6.base, I6.hok, p2, p1, ra, hle, qq⟩)
    · have ti := T.item (genX X Aw s3 H3 fp (gEnv X scope C code) [(a, go)]) rfl rfl rfl rfl i _ s _ H (fun _ _ => False) I5 (stat I5 n5) st go'
      refine seg_bind_wrap ?_
      rw [ov]
      refine thnF ti fun r s6 h6 => ?_
      obtain ⟨u, hr, h6⟩ := h6
      subst hr
      refine seg_bind_wrap ?_
      rw [ov]
      refine thnF h6 fun _ s7 h7 => ?_
      obtain ⟨x, H7, I7, r7, y7, st7, n7⟩ := h7
      have I7' := I7.pinned (stat I7 n7) (T.obj _ _ st7)
      refine seg_bind_wrap ?_
      rw [ov]
      refine thnF (pg.run _ s7 _ H7 x u _ I7' r7 (step x H7 y7)) fun _ s8 h8 => ?_
      obtain ⟨σ8, H8, I8, hw8, q8⟩ := h8
      refine seg_bind_wrap ?_
      rw [ov]
      refine thnF (pt.run _ s8 σ8 H8 _ I8 q8) fun b s9 h9 => ?_
      obtain ⟨H9, I9, q9⟩ := h9
      have fin : ∀ {s' : Shared} {H' : Hp} {ys' : List V} {acc' : Array Value} {c' : Nat}, Vals ys' acc'.toList → Inv (genX X Aw s3 H3 fp (gEnv X scope C code) [(a, go)]) ([(S, lstObj acc' c')] ++ pinsAt fp s7.heap) σ8 H' s' → Nx ys' H' →
          ∃ m', m' < m ∧ W (i + 1) m' ys' H' ∧ GI (genX X Aw s3 H3 fp (gEnv X scope C code) [(a, go)]) S [] ys' (wipe σ vs) H' s' ∧ tn (i + 1) s'.heap ∧ ∀ b ∈ fp, H' b = none := fun {s' H' ys' acc' c'} rv I' nx => by
        obtain ⟨m', hm, w'⟩ := hNx ys' H' nx
        have pin' : ∀ b ∈ fp, ∀ o, s7.heap.get? b = some o → s'.heap.get? b = some o ∧ H' b = none := fun b hb o e =>
          let z := I'.pin (b, o) (List.mem_append_right _ (List.mem_append_right _ (mem_pinsAt hb e)))
          ⟨z.1, z.2.1⟩
        have hl : (wipe σ vs).length = σ8.length := by rw [← hw8, wipe_length]
        refine ⟨m', hm, w', ⟨acc', c', rv, (I'.unpinned).weak hl fun j v e => ?_⟩, T.keep _ _ _ st7 fun b hb o e => (pin' b hb o e).1, fun b hb => ?_⟩
        · rw [← hw8] at e
          exact (wipe_some e).1
        · obtain ⟨o, e, _⟩ := T.obj _ _ st7 b hb
          exact (pin' b hb o e).2
      cases b with
      | false =>
        simp only [Bool.false_eq_true, if_false] at q9 ⊢
        obtain ⟨m', hm, w', g', t', n'⟩ := fin ra I9 q9
        exact seg_again rfl (ih m' hm (i + 1) n ys H9 s₀ s9 w' hn g' t' n')
      | true =>
        simp only [if_true] at q9 ⊢
        have hy : ∀ v, yieldOut (gEnv X scope C code) v = yieldValue v := fun v => by
          have : (gEnv X scope C code).scope.isCoroutine = false := hco
          simp only [yieldOut, this, Bool.false_eq_true, if_false]
        simp only [hy]
        rw [Sem.bind_eq_wrap', Sem.bind_eq_wrap', Sem.wrap_wrap, Sem.wrap_wrap]
        refine seg_wrap ?_
        rw [ov]
        refine thnF (pe.run _ s9 σ8 H9 _ I9 q9) fun z s10 h10 => ?_
        obtain ⟨yv, H10, I10, r10, hlt, nx⟩ := h10
        obtain ⟨n', rfl⟩ : ∃ n', n = n' + 1 := ⟨n - 1, by omega⟩
        obtain ⟨p1, p2, _⟩ := I10.pin (S, lstObj acc cc) (List.mem_append_right _ List.mem_cons_self)
        obtain ⟨p3, _⟩ := I10.pin (a, go) (List.mem_append_left _ List.mem_cons_self)
        have hsz : acc.size = ys.length := by
          have e1 := ra.length
          have e2 : acc.toList.length = acc.size := by simp
          omega
        refine seg_at (seg_yield rfl rfl rfl ⟨I10.os, I10.bare, I10.nolimit, hgen _ p3, ⟨acc, cc, p1, by omega⟩, fun s'' hal => ?_⟩)
        have hip : ∀ p ∈ pinsAt fp s7.heap, p.1 ≠ S := fun p hp e => hSfp (by rw [← e]; exact (of_pinsAt hp).1)
        obtain ⟨acc', c', rv', I11⟩ := GI.woken (ip := pinsAt fp s7.heap) hpn hip hA ⟨acc, cc, ra, I10⟩ r10 hal
        obtain ⟨m', hm, w', g', t', n''⟩ := fin rv' I11 nx
        exact seg_again rfl (ih m' hm (i + 1) n' (ys ++ [yv]) H10 s'' s'' w' (by rw [List.length_append, List.length_singleton]; omega) g' t' n'')
theorem pgen_ge {T : Tb} {c P : Addr} {elt tg iter : Expr} {ifs : List Expr} {scope : Scope} {own : List (Str × Nat)} {gpos : Pos} {wi : TI} {g : TG} {tt : TT} {te : TE} {k : Nat}
    (hr : Room (k + 1) X.A) (hN : X.N.Nodup) (B : GBlk X.N X.env.scope scope own) (TB : LamX.TabB X.base X.mg c P) (hcode : X.env.code = .ref c) (hmT : (P, X.env.qual ++ "<genexpr>") ∈ T) (hu : ∀ p ∈ T, p.1 = P → p.2 = X.env.qual ++ "<genexpr>") (hi : PI X tg iter wi)
    (hg : ∀ (A : Around) (s : Shared) (H : Hp) (ex : List Addr) (C : Addr) (code : Value) (pn : List (Addr × Obj)), Room k (A.deeper (gEnv X scope C code)) → PG (genX X A s H ex (gEnv X scope C code) pn) tg g)
    (ht : ∀ (A : Around) (s : Shared) (H : Hp) (ex : List Addr) (C : Addr) (code : Value) (pn : List (Addr × Obj)), Room k (A.deeper (gEnv X scope C code)) → PTs (genX X A s H ex (gEnv X scope C code) pn) ifs tt)
    (he : ∀ (A : Around) (s : Shared) (H : Hp) (ex : List Addr) (C : Addr) (code : Value) (pn : List (Addr × Obj)), Room k (A.deeper (gEnv X scope C code)) → PE (genX X A s H ex (gEnv X scope C code) pn) elt te)
    (hs : ∀ v, genFold iter X.env v = pure v) : PGen X (k + 1) (.GeneratorExp elt [⟨tg, iter, ifs, 0⟩] scope gpos) (tGe T wi g tt te (own.map (·.2))) XF := by
  refine ⟨fun pins s σ H cont I h => ?_⟩
  have hfree : ∀ y ∈ scope.names, y.2 = .free → ∃ c, X.env.cells.lookup y.1 = some c := fun y hy e => by
    rcases B.free y hy e with k | k
    · exact I.ok.has _ (.inl k)
    · exact I.ok.has _ (.inr k)
  refine gen_make B.co (closure_ok hfree) B.dot B.kind (by have := hr.dp; omega) ?_ hs
  refine thn (hi.run pins s σ H _ I h) fun xv s1 hx => thn hx fun itv s2 h2 => ?_
  obtain ⟨it, fp, tn, J, H2, e, I2, T', st2, f2, hT, q⟩ := h2
  subst e
  refine ⟨I2.nolimit, ?_⟩
  obtain ⟨ps, hP, htr, hca⟩ := hT _ hmT
  have hPs : s2.heap.get? P = some { cls := .none, data := .fields ps } := I2.hok P _ hP
  have cd : PySem.W.CodeHd s2.heap c P := TB.code.keeps fun b u e => I2.bk b u e
  have szf : ∀ b ∈ fp, b < s2.heap.objs.size := fun b hb => by
    obtain ⟨o, e, _⟩ := T'.obj _ _ st2 b hb
    exact Heap.lt_size e
  have nPf : ∀ b ∈ fp, b ≠ P := fun b hb e => by
    have := (f2 b hb).1
    rw [e, hP] at this
    cases this
  -- behind the code object
  have main : ∀ (code : Value) (h3 : Heap) (tk : Nat) (H3 : Hp), Inv X pins σ H3 { s2 with heap := h3, toks := tk } → LamX.ExtN H2 H3 → LamX.Tabs T H3 → (∀ b ∈ fp, H3 b = none) → (∀ b o, b ≠ P → s2.heap.get? b = some o → h3.get? b = some o) → s2.heap.objs.size ≤ h3.objs.size →
      wpAny (model X.prog X.w) X.A (builtinsFor X.env.globals X.env.builtins) (fun bi s₄ => ∀ h', h'.Ns s₄.heap.objs.size (fun y => if y = ".0" then some (Value.ref it) else none) → Heap.SameBut s₄.heap.objs.size (pushCells (s₄.heap.push { cls := .type "frame", data := .dict #[] }) scope.names) h' →
        ∃ H1 sc ex, Inv X pins σ H1 sc ∧ ExOk X pins ex ∧ GMade X.prog X.w (k + 1) X.stack H1 sc ex cont XF (.ref h'.objs.size) { s₄ with
            gens := s₄.gens.push (.fresh (.compStart (.GeneratorExp elt [⟨tg, iter, ifs, 0⟩] scope gpos) 0 (.ref it) .none (genEnv scope (cellsFrom (s₄.heap.objs.size + 1) scope.names (cloFrom X.env.cells scope.names [])) s₄.heap.objs.size code bi X.env))),
            toks := s₄.toks + 1 + 1 + 1,
            heap := h'.push { cls := .type "generator", data := .fields #[.int s₄.gens.size 0, .str "<genexpr>" (s₄.toks + 1), .str (X.env.qual ++ "<genexpr>") (s₄.toks + 1 + 1)] } }) X.xe { s2 with heap := h3, toks := tk } := by
    intro code h3 tk H3 I3 hE hT3 hn3 kp3 sz3
    obtain ⟨bm, ob, e1, e2, e3, e4, e5, e6, e7, e8⟩ := TB.bm
    refine wpAny_builtinsFor (m := X.mg) (by rw [I3.ok.glob]; exact I3.mod.glob.keeps I3.bk) e1 e2 (I3.bk _ _ e5) e6 e7 e8 ?_
    intro h' hns sb
    generalize hs3 : ({ s2 with heap := h3, toks := tk } : Shared) = s3 at I3 ⊢
    have hh3 : s3.heap = h3 := by rw [← hs3]
    have hg3 : s3.gens = s2.gens := by rw [← hs3]
    have ho3 : s3.os = s2.os := by rw [← hs3]
    have hns : h'.Ns s3.heap.objs.size (fun y => if y = ".0" then some (Value.ref it) else none) := by rw [hh3]; exact hns
    have sb : Heap.SameBut s3.heap.objs.size (pushCells (s3.heap.push { cls := .type "frame", data := .dict #[] }) scope.names) h' := by rw [hh3]; exact sb
    have kp4 : ∀ b o, s3.heap.get? b = some o → h'.get? b = some o := fun b o e => sb.extBut b o (Nat.ne_of_lt (Heap.lt_size e)) (pushCells_keeps _ _ _ _ (Heap.get?_push_of_some _ e))
    have lt4 : s3.heap.objs.size < h'.objs.size := hns.lt
    have st3 : tn 0 s3.heap := T'.keep _ _ _ st2 fun b hb o e => by rw [hh3]; exact kp3 b o (nPf b hb) e
    have st4 : tn 0 h' := T'.keep _ _ _ st3 fun b _ o e => kp4 b o e
    have f3 : ∀ b ∈ fp, FpOk X pins H3 b ∧ b < s3.heap.objs.size := fun b hb => ⟨⟨hn3 b hb, (f2 b hb).2⟩, by rw [hh3]; exact Nat.lt_of_lt_of_le (szf b hb) sz3⟩
    refine ⟨H3, s3, fp, I3, fun b hb => ⟨(f3 b hb).1.2.2.2.1, (f3 b hb).1.2.1, (f3 b hb).1.2.2.2.2.1, (f3 b hb).1.2.2.2.2.2⟩, ?_⟩
    have goal : ∀ (go : Obj) (nm qn : Value) (tk2 : Nat), go.cls = .type "generator" → go.data = .fields #[.int s3.gens.size 0, nm, qn] → go.slots = #[] → (∀ h : Heap, (h.push go).get? h.objs.size = some go) →
        GMade X.prog X.w (k + 1) X.stack H3 s3 fp cont XF (.ref h'.objs.size) { s3 with
            gens := s3.gens.push (.fresh (.compStart (.GeneratorExp elt [⟨tg, iter, ifs, 0⟩] scope gpos) 0 (.ref it) .none (gEnv X scope s3.heap.objs.size code))), toks := tk2, heap := h'.push go } := by
      intro go nm qn tk2 hgc hgd0 hgs hgp
      have hgen : ∀ h : Heap, h.get? h'.objs.size = some go → h.IsGen h'.objs.size s3.gens.size := fun h e => ⟨go, nm, qn, e, hgc, hgd0, hgs⟩
      have hpushed : (h'.push go).get? h'.objs.size = some go := hgp _
      have lim3 : s3.heap.NoLimit := I3.nolimit
      have ab : AllBare (s3.gens.push (.fresh (.compStart (.GeneratorExp elt [⟨tg, iter, ifs, 0⟩] scope gpos) 0 (.ref it) .none (gEnv X scope s3.heap.objs.size code)))) := I3.bare.push rfl
      refine ⟨h'.objs.size, s3.gens.size, _, rfl, Nat.le_of_lt lt4, ?_, hgen _ hpushed, Array.getElem?_push_size .., rfl, ab, (lim3.keeps kp4).keeps fun b o e => Heap.get?_push_of_some _ e, fun b o e => Heap.get?_push_of_some _ (kp4 b o e), ?_⟩
      · show _ < (h'.push _).objs.size
        rw [Heap.size_push]; exact Nat.lt_succ_self _
      intro Aw Sx s5 hrw hfr hSx hk5 hSo hos hba
      have I4 := gen_start (A := Aw) (code := code) (it := .ref it) (tk := tk2) I3 hN B f3 hrw.hd hfr hns (fun b o ne e => sb.extBut b o ne e) ab
      have kp5 : ∀ b o, h'.get? b = some o → s5.heap.get? b = some o := fun b o e => hk5 b o (Heap.get?_push_of_some _ e)
      have I5 : Inv (genX X Aw s3 H3 fp (gEnv X scope s3.heap.objs.size code) []) [] (wipe σ (own.map (·.2))) H3 s5 :=
        I4.call' (ch := []) (hos.trans rfl) (Un.kept kp5) (I4.hok.kept kp5) hba fun b z => by simp at z
      have hSz : h'.objs.size < Sx := by
        have hSx' : (h'.push go).objs.size ≤ Sx := hSx
        rw [Heap.size_push] at hSx'
        exact hSx'
      obtain ⟨cS, heS⟩ := hSo
      have hea : s5.heap.get? h'.objs.size = some go := hk5 h'.objs.size go hpushed
      have hgd : ∀ v, go.data ≠ .cell v := fun v q => by rw [hgd0] at q; cases q
      have young : ∀ b, h'.objs.size ≤ b → H3 b = none ∧ b ≠ s3.heap.objs.size ∧ b ∉ frs X.stack ∧ s3.heap.objs.size ≤ b ∧ ∀ y c, (gEnv X scope s3.heap.objs.size code).cells.lookup y = some c → c ≠ b := fun b hb => by
        refine ⟨I4.hok.fresh hb, Nat.ne_of_gt (Nat.lt_of_lt_of_le lt4 hb), I4.nofs hb, Nat.le_trans (Nat.le_of_lt lt4) hb, fun y c e z => ?_⟩
        obtain ⟨v, ob, ho, _⟩ := I4.cell y c e
        have := Heap.lt_size ho
        rw [z] at this
        exact absurd (Nat.lt_of_lt_of_le this hb) (Nat.lt_irrefl _)
      have hSne : h'.objs.size ≠ Sx := Nat.ne_of_lt hSz
      have ltf : ∀ b ∈ fp, b < h'.objs.size := fun b hb => Nat.lt_trans (f3 b hb).2 lt4
      have I6 : Inv (genX X Aw s3 H3 fp (gEnv X scope s3.heap.objs.size code) [(h'.objs.size, go)]) [(Sx, lstObj #[] cS)] (wipe σ (own.map (·.2))) H3 s5 := by
        refine ⟨⟨I5.ok.mod, I5.ok.kind, I5.ok.glob, I5.ok.blt, I5.ok.above, I5.ok.inj, I5.ok.has, I5.ok.cab, I5.ok.hd, I5.ok.frames, I5.ok.stk, I5.ok.exf, I5.ok.bs, I5.ok.bsz, I5.ok.noex, I5.ok.exfs, I5.ok.funs, I5.ok.frf⟩, I5.os, I5.bare, I5.base, I5.loc, I5.cell, I5.free, I5.freeC, fun p hp => ?_, I5.hok, I5.len⟩
        rcases List.mem_append.mp hp with z | z
        · rw [List.mem_singleton.mp (show p ∈ [(h'.objs.size, go)] from z)]
          obtain ⟨y1, y2, y3, _, _⟩ := young h'.objs.size (Nat.le_refl _)
          exact ⟨hea, y1, y2, y3, hgd⟩
        · rw [List.mem_singleton.mp z]
          obtain ⟨y1, y2, y3, _, _⟩ := young Sx (Nat.le_of_lt hSz)
          exact ⟨heS, y1, y2, y3, fun v q => by cases q⟩
      have hAp : Apart (genX X Aw s3 H3 fp (gEnv X scope s3.heap.objs.size code) [(h'.objs.size, go)]) Sx := by
        obtain ⟨_, y2, _, y4, y5⟩ := young Sx (Nat.le_of_lt hSz)
        exact ⟨y4, y2, y5⟩
      obtain ⟨W, ⟨m0, w0⟩, turn⟩ := q H3 hE hT3
      have hrd := hrw.deeper (gEnv X scope s3.heap.objs.size code)
      have st5 : tn 0 s5.heap := T'.keep _ _ _ st4 fun b _ o e => kp5 b o e
      have loop := ge_loop (Q := cont) (pos := gpos) (scope := scope) (iter := iter) (s3 := s3) T' hgen B.co (fun z => Nat.lt_irrefl _ (Nat.lt_trans (ltf _ z) hSz)) (fun z => Nat.lt_irrefl _ (ltf _ z)) hSne hAp (hg _ _ _ _ _ _ _ hrd) (ht _ _ _ _ _ _ _ hrd) (he _ _ _ _ _ _ _ hrd) turn m0 0 sizeLine [] H3 s5 s5 w0 rfl ⟨#[], cS, .nil, I6⟩ st5 hn3
      show Seg _ Aw _ _ _ s5 _ ((compStart (.GeneratorExp elt [⟨tg, iter, ifs, 0⟩] scope gpos) 0 (.ref it) .none (gEnv X scope s3.heap.objs.size code)).onRaise (leaving (gEnv X scope s3.heap.objs.size code))) [] s5
      unfold compStart
      rw [Sem.onRaise_eq_wrap]
      show Seg _ Aw _ _ _ s5 _ ((ask >>= _).wrap _ _ _ _) [] s5
      refine seg_bind_wrap (wpAny_askSetting ?_)
      split
      · exact seg_again rfl loop
      · first
          | exact seg_bind_wrap (wpAny_rule (seg_bind_wrap (wpAny_standAt (seg_bind_wrap (T'.self _ 0 s5 _ _ st5 (seg_again rfl loop))))))
          | (refine seg_bind_wrap (wpAny_rule ?_); show Seg _ Aw _ _ _ s5 _ ((standAt iter.pos >>= _).wrap _ _ _ _) [] s5; exact seg_bind_wrap (wpAny_standAt (seg_bind_wrap (T'.self _ 0 s5 _ _ st5 (seg_again rfl loop)))))
    exact goal _ _ _ _ rfl rfl rfl fun h => Heap.get?_push_size _ rfl
  cases hf : codeAmong gpos ps.toList with
  | none =>
    refine wpAny_genexprCodeX hcode (cd.code hPs htr) (cd.tab hPs) hf fun c' h' tk hx hge hlt hco' hrec htab' _ => ?_
    obtain ⟨o1, vs, f1, tf, fl, tg', inF, tx, tt', op, _, _, _, _, _, _, _, _, _, htr', _⟩ := hco'
    obtain ⟨c2, oc, cvs, ct, e2, hoc, hcd, hcv⟩ := hrec
    cases e2
    have hge' : s2.heap.objs.size ≤ c' := hge
    have hPlt : P < s2.heap.objs.size := Heap.lt_size hPs
    have nC : H2 c' = none := I2.hok.fresh hge'
    have I3 := LamX.inv_table (t' := tk) (more := #[rawInt gpos.line, rawInt gpos.col, .ref c']) (h' := h') I2 hP (fun b u hb e => hx b u hb e) htab'.2 hge' ⟨oc, cvs, ct, hoc, hcd, hcv⟩
    have hE : LamX.ExtN H2 (upd (upd H2 P (.tbl (ps ++ #[rawInt gpos.line, rawInt gpos.col, .ref c']))) c' (LamX.CodeO c' (X.env.qual ++ "<genexpr>"))) := fun b o e n => by
      rw [upd_ne (ne_of_none e nC), upd_ne (fun z => n ps (Option.some.inj (e.symm.trans (by rw [z]; exact hP))))]
      exact e
    have eL : (ps ++ #[rawInt gpos.line, rawInt gpos.col, .ref c']).toList = ps.toList ++ [rawInt gpos.line, rawInt gpos.col, .ref c'] := by simp
    refine main _ h' tk _ I3 hE (fun p hp => ?_) (fun b hb => ?_) (fun b o hb e => hx b o hb e) (Nat.le_trans hge (Nat.le_of_lt hlt))
    · by_cases hb : p.1 = P
      · rw [hu p hp hb, hb]
        refine ⟨_, by rw [upd_ne (ne_of_none hP nC), upd_same], htr', fun p' cv hcv => ?_⟩
        rw [eL] at hcv
        rcases LamX.among_app _ htr hcv with z | z
        · obtain ⟨c0, e1, e2⟩ := hca p' cv z
          exact ⟨c0, e1, hE _ _ e2 LamX.codeO_ne⟩
        · exact ⟨c', z, upd_same⟩
      · obtain ⟨ps', a1, a2, a3⟩ := hT p hp
        refine ⟨ps', by rw [upd_ne (ne_of_none a1 nC), upd_ne hb]; exact a1, a2, fun p' cv hcv => ?_⟩
        obtain ⟨c0, e1, e2⟩ := a3 p' cv hcv
        exact ⟨c0, e1, hE _ _ e2 LamX.codeO_ne⟩
    · rw [upd_ne (Nat.ne_of_lt (Nat.lt_of_lt_of_le (szf b hb) hge')), upd_ne (nPf b hb)]
      exact (f2 b hb).1
  | some cv =>
    refine wpAny_genexprCode_hit hcode (cd.code hPs htr) hf ?_
    exact main cv s2.heap s2.toks H2 I2 (LamX.ExtN.refl H2) hT (fun b hb => (f2 b hb).1) (fun b o _ e => e) (Nat.le_refl _)
end
end Ts


/-! What eats a generator whole: tuple(g). -/
namespace Ts
open PySem PySem.Spec PyProof.Rows L2 GenW
section
variable {P : Program} {w : World} {outer : List Env} {H : Hp} {sc s : Shared} {ex : List Addr} {Q : List V → Hp → Prop} {A : Around} {k : Nat} {u : Value} {E : Value → Shared → Prop}
theorem no_exc {e : Value} {s' : Shared} (hc : L2.CX P w outer H sc XF e s') : False := by
  obtain ⟨_, _, _, _, _, _, _, _, _, _, _, _, _, _, _, _, z⟩ := hc
/-- all that a generator hands out, in a list of the builtin's own -/
theorem collectG {Q' : List Value → Shared → Prop} (hr : Room (k + 3) A) (hfr : A.frames = some outer) (h : GMade P w k outer H sc ex Q XF u s)
    (hQ : ∀ (S : Addr) (s' : Shared) (acc : Array Value) (H' : Hp) (ys : List V), s.heap.objs.size ≤ S → Vals ys acc.toList → ys.length ≤ sizeLine → s'.os = sc.os → AllBare s'.gens → Un (frs outer) ex H H' sc.heap s'.heap → HOk P w H' s'.heap → H' S = none → Q ys H' → Q' acc.toList s') :
    wpAny (model P w) A (collect u) Q' E s := by
  obtain ⟨a, g, c, rfl, ha1, ha2, hg, hgs, hos, hb, hl, hkp, wake⟩ := h
  have hSa : s.heap.objs.size ≠ a := Nat.ne_of_gt ha2
  have hcl : cStatics < s.heap.objs.size := let ⟨_, hn, _⟩ := hl; hn.lt
  have hSc : s.heap.objs.size ≠ cStatics := Nat.ne_of_gt hcl
  unfold collect
  refine wpAny_bind (wpAny_runValue (codeAny_builtin F.entry_proto_collect ?_))
  rw [Around.under_plainId F.plain_proto_collect _]
  show wpAny _ A.in1 (newList [] >>= fun l => again (.builtin "list.__iadd__" ⟨[l, .ref a], []⟩)) _ _ s
  refine wpAny_bind (wpAny_newObj_type ?_)
  refine wpAny_pure ⟨plainId_quiet F.plain_list_iadd _, codeAny_builtin F.entry_list_iadd ?_⟩
  rw [Around.under_plainId F.plain_list_iadd _]
  show wpAny _ A.in1 (Builtin.List.listExtendWith (.ref s.heap.objs.size) (.ref a) (.ref s.heap.objs.size)) _ _ _
  unfold Builtin.List.listExtendWith
  have up : ∀ (h : Heap) (f : Obj → Obj), (∀ b o, s.heap.get? b = some o → h.get? b = some o) → ∀ b o, s.heap.get? b = some o → (h.update s.heap.objs.size f).get? b = some o := fun h f q b o e =>
    (Heap.get?_update_other _ _ (Ne.symm (Nat.ne_of_lt (Heap.lt_size e)))).trans (q b o e)
  have k1 : ∀ b o, s.heap.get? b = some o → (s.heap.push { cls := .type "list", data := .seq ([] : List Value).toArray }).get? b = some o := fun b o e => Heap.get?_push_of_some _ e
  have gty : ∀ {h : Heap}, (∀ b o, s.heap.get? b = some o → h.get? b = some o) → h.IsGen a g := fun {h} q => hg.keeps q
  have hS1 : (s.heap.push { cls := .type "list", data := .seq ([] : List Value).toArray }).get? s.heap.objs.size = some { cls := .type "list", data := .seq ([] : List Value).toArray } := Heap.get?_push_size _ rfl
  refine wpAny_bind (wpAny_typeOf (Heap.IsGen.typeIs (s := { s with heap := _ }) (gty k1)) ?_)
  have h1 : Builtin.List.listSameRef (.ref s.heap.objs.size) (.ref a) = false := by simp [Builtin.List.listSameRef, hSa]
  have h2 : (Value.type "generator" == Value.type "list") = false := by decide
  have h3 : (Value.type "generator" == Value.type "tuple") = false := by decide
  simp only [h1, h2, h3, Bool.or_false, Bool.false_eq_true, if_false]
  refine wpAny_bind (wpAny_pyIter_gen (s := { s with heap := _ }) (gty k1) ?_)
  refine wpAny_bind (wpAny_holding ?_)
  unfold Builtin.List.listLengthHint
  refine wpAny_bind (wpAny_specialOf (Heap.IsGen.typeIs (s := { s with heap := _ }) (gty k1)) F.gen_no_len ?_)
  show wpAny _ A.in1 (specialOf (Value.ref a) (Str.ofString "__length_hint__") >>= _) _ _ _
  refine wpAny_bind (wpAny_specialOf (Heap.IsGen.typeIs (s := { s with heap := _ }) (gty k1)) F.gen_no_hint ?_)
  refine wpAny_pure ?_
  show wpAny _ A.in1 (rule "list.extend.makes-room" >>= fun _ => Builtin.List.listTouch (.ref s.heap.objs.size) >>= fun _ =>
    again (.builtin "list.extend.loop" ⟨[.ref s.heap.objs.size, .ref a, .ref s.heap.objs.size], []⟩)) _ _ _
  refine wpAny_bind (wpAny_rule ?_)
  refine wpAny_bind ?_
  show wpAny _ A.in1 (updateSeq s.heap.objs.size (·.push .none) >>= fun _ => updateSeq s.heap.objs.size (·.pop)) _ _ _
  refine wpAny_bind (wpAny_updateSeq hS1 rfl ?_)
  have hS3 := Heap.get?_update_self (Obj.mapSeq (·.push Value.none)) hS1 rfl
  refine wpAny_updateSeq hS3 rfl ?_
  have hS4 := Heap.get?_update_self (Obj.mapSeq (·.pop)) hS3 rfl
  have k4 := up _ (Obj.mapSeq (·.pop)) (up _ (Obj.mapSeq (·.push Value.none)) k1)
  refine wpAny_pure ⟨plainId_quiet F.plain_extend_loop _, ?_⟩
  refine drain (P := P) (w := w) (outer := outer) (H := H) (sc := sc) (ex := ex) (Q := Q) (EX := XF) (A := A) (g := g) hr.hd (by have := hr.dp; omega) hSa hSc
    (fun s' acc c H' ys q1 q2 q3 q4 q5 q6 q7 q8 q9 => ?_) (fun e s' hc => (no_exc hc).elim)
    sizeLine _ (gty k4) (hl.keeps k4) ⟨_, hgs, rfl, ?_⟩
  · show wpAny _ A (load s.heap.objs.size >>= _) _ _ s'
    refine wpAny_bind (wpAny_load q1 ?_)
    exact wpAny_pure (hQ _ s' acc H' ys (Nat.le_refl _) q2 q3 q4 q5 q6 q7 q8 q9)
  · refine wake _ _ _ ⟨hr.hd, ?_, ?_⟩ hfr (Nat.le_refl _) k4 ⟨_, hS4⟩ hos (allBare_setGen (s := { s with heap := _ }) hb rfl)
    · have := hr.dp
      show A.depth + 3 * k + 5 < _
      omega
    · have := hr.un
      show A.units + 1 + 1 + 16 * k + 200 < _
      omega
theorem code_tupG {Q₁ : Value → Shared → Prop} {a : Addr} {g : Nat} (hr : Room (k + 4) A) (hfr : A.frames = some outer) (h : GMade P w k outer H sc ex Q XF (.ref a) s) (hg : s.heap.IsGen a g)
    (hQ : ∀ (S : Addr) (s' : Shared) (acc : Array Value) (H' : Hp) (ys : List V), s.heap.objs.size ≤ S → Vals ys acc.toList → ys.length ≤ sizeLine → s'.os = sc.os → AllBare s'.gens → Un (frs outer) ex H H' sc.heap s'.heap → HOk P w H' s'.heap → H' S = none → Q ys H' →
      Q₁ (.ref s'.heap.objs.size) { s' with heap := s'.heap.push { cls := .type "tuple", data := .seq acc } }) :
    codeAny (model P w) A (.call (.builtin "tuple.__new__") ⟨[.type "tuple", .ref a], []⟩) (wants Q₁ E) s := by
  refine codeAny_of_tree ?_
  show wpAny _ A.in1 (do checkBuiltinCall "tuple.__new__" ⟨[.type "tuple", .ref a], []⟩; again (.builtin "tuple.__new__" ⟨[.type "tuple", .ref a], []⟩)) _ _ s
  refine wpAny_bind (wpAny_of_eq (F.newCall_tuple_1 _) (wpAny_pure ⟨plainId_quiet F.plain_tuple_new _, codeAny_builtin F.entry_tuple_new ?_⟩))
  rw [Around.under_plainId F.plain_tuple_new _]
  have hsub := sub_tuple_self
  have hinit := init_tuple_lookup
  have hmh := madeHere_tuple
  have hTI := hg.typeIs
  have hcol := fun (Q' : List Value → Shared → Prop) (E' : Value → Shared → Prop) hq => collectG (Q' := Q') (E := E') (A := A.in1) hr.in1 hfr h hq
  wp_walk using wpAny_typeOf hTI, hcol
  intro S s' acc H' ys q1 q2 q3 q4 q5 q6 q7 q8 q9
  show wpAny _ _ (Builtin.Tuple.tupleExact acc.toList.toArray >>= fun v => ret v) _ _ _
  unfold Builtin.Tuple.tupleExact
  have hz : acc.size ≤ sizeLine := by
    have e1 := q2.length
    have e2 : acc.toList.length = acc.size := by simp
    omega
  refine wpAny_bind (wpAny_newObj_type ?_ (by show acc.toList.toArray.size ≤ sizeLine; simp only [Array.toArray_toList]; exact hz))
  refine wpAny_pure ?_
  have e : acc.toList.toArray = acc := by simp
  rw [e]
  exact hQ S s' acc H' ys q1 q2 q3 q4 q5 q6 q7 q8 q9
theorem call_tupGen {Q' : Value → Shared → Prop} {u : Value} (hr : Room (k + 5) A) (hfr : A.frames = some outer) (h : GMade P w k outer H sc ex Q XF u s)
    (hQ : ∀ (S : Addr) (s' : Shared) (acc : Array Value) (H' : Hp) (ys : List V), s.heap.objs.size ≤ S → Vals ys acc.toList → ys.length ≤ sizeLine → s'.os = sc.os → AllBare s'.gens → Un (frs outer) ex H H' sc.heap s'.heap → HOk P w H' s'.heap → H' S = none → Q ys H' →
      Q' (.ref s'.heap.objs.size) { s' with heap := s'.heap.push { cls := .type "tuple", data := .seq acc } }) :
    wpAny (model P w) A (call (.type "tuple") [u]) Q' E s := by
  obtain ⟨a, g, c, rfl, ha1, ha2, hg, hrest⟩ := id h
  refine callType_codes (Q₁ := fun obj s₁ => s₁.TypeIs obj "tuple" ∧ Q' obj s₁) F.called_tuple (F.typeCall_tuple_1 _) F.entry_object_init
    (code_tupG hr.in1 hfr h hg fun S s' acc H' ys q1 q2 q3 q4 q5 q6 q7 q8 q9 => ⟨⟨_, Heap.get?_push_size _ rfl, rfl⟩, hQ S s' acc H' ys q1 q2 q3 q4 q5 q6 q7 q8 q9⟩) fun obj s₁ h₁ => ?_
  exact ⟨h₁.1, F.args_object_init_2 obj _, object_init_meets F.called_tuple.init.lookup F.called_tuple.made (by decide) P w A.in1 _ s₁ ⟨h₁.1, rfl, h₁.2⟩⟩
end
section
variable {X : Cx} {k : Nat}
def tTupG (tg : TGen) : TE := fun σ H Q => tg σ H fun out H2 => out.length ≤ sizeLine ∧ ∀ p, H2 p = none → Q (.ref p) (upd H2 p (.tup out))
/-- behind a generator that was eaten whole -/
theorem Inv.eaten {pins : List (Addr × Obj)} {σ : L2.St} {H H' : Hp} {sc s' : Shared} {ex : List Addr} (I : Inv X pins σ H sc) (hex : ExOk X pins ex) (os : s'.os = sc.os) (hb : AllBare s'.gens) (un : Un (frs X.stack) ex H H' sc.heap s'.heap) (hok : HOk X.prog X.w H' s'.heap) : Inv X pins σ H' s' :=
  I.call' (ch := ex) os un hok hb hex
theorem pe_tupG {e : Expr} {tg : TGen} {nm : Str} {p pos : Pos} (h : PGen X k e tg XF) (hr : Room (k + 5) X.A) (hg : Gl X nm) (hmg : X.mg nm = none) (hv : bootBuiltins nm = some (.type "tuple")) (hnm : nm ≠ "__name__" := by decide) (hdb : (nm == ("__debug__" : Str)) = false := by decide)
    (he : starEach [e] X.env = (false, eval e X.env) :: starEach [] X.env := by rfl) : PE X (.Call (.Name nm p) [e] [] pos) (tTupG tg) := by
  refine ⟨fun pins s σ H Q I hq => ?_⟩
  refine wpAny_Call_Name_kw (ld_blt I hg hmg hv ?_ hnm hdb)
  refine PyProof.Rows.callWith_type1 ?_ he rfl
  rw [he]
  show wpAny _ _ (spliced ((false, eval e X.env) :: backTo pos (starEach [] X.env))) _ _ s
  refine Calls.spliced_cons (thn (h.run pins s σ H _ I hq) fun u s1 ⟨H1, sc, ex, I1, hex, hG⟩ => ?_)
  refine Calls.spliced_nil ?_
  refine call_tupGen hr I1.ok.frames hG fun S s' acc H' ys q1 q2 q3 q4 q5 q6 q7 q8 q9 => ?_
  have I2 := Inv.eaten I1 hex q4 q5 q6 q7
  exact ⟨.ref s'.heap.objs.size, _, I2.laid (t' := s'.toks) (o := .tup ys) (fun b ob q => Heap.get?_push_of_some _ q) (Nat.le_refl _) ⟨q3, acc.toList, q2, by
    have e : acc.toList.toArray = acc := by simp
    rw [e]
    exact IsTup.new _ _⟩, rfl, q9.2 _ (I2.hok.fresh (Nat.le_refl _))⟩
end
end Ts


/-! tuple(g) by data; faults told by two clauses. -/
namespace Ts
variable [Tt]
open PySem PySem.Spec PyProof.Rows L2
section
variable {K : PySem.W.Frag} {E : L2.St → XK} {Δ : En} {te : TE} {tt : TT} {R : D → Prop} {X : Addr → Prop} {wi : TI} {Rw : List D → Prop}
/-- tuple(elt for target in iter if ..) -/
theorem ev_tupGe {g : TG} {vs : List Nat} (hw : Ew K E wi Δ Rw X) (I : List D → Nat → List D → Prop) (h0 : ∀ items, Rw items → I items 0 [])
    (hs : ∀ items i d acc, Rw items → items[i]? = some d → I items i acc → ∃ js Δ2, (∀ j ∈ js, j ∈ vs) ∧ Tg K g js (wipeE Δ vs) d Δ2 ∧
      Et K E00 tt Δ2 (fun b => (b = true → Ev K E00 te Δ2 (fun e => acc.length < sizeLine ∧ I items (i + 1) (acc ++ [e])) fun _ => False) ∧ (b = false → I items (i + 1) acc)) fun _ => False)
    (hd : ∀ items acc, Rw items → I items items.length acc → acc.length ≤ sizeLine ∧ R (.tup acc)) : Ev K E (tTupG (tGe Tt.tb wi g tt te vs)) Δ R X := fun q G0 H0 G H σ Q s k kx => by
  refine hw q G0 H0 G H σ _ s (fun J items Gw Hw gw wk rw_ => ?_) kx
  refine ⟨(s.go gw).rs.tb, fun H2 e2 t2 => ?_⟩
  have gw2 : Gr q G H Gw H2 := s.tr gw (Gr.tabs gw.sub e2 t2)
  refine ⟨fun i m ys H' => m = items.length - i ∧ i ≤ items.length ∧ ∃ G' acc, Gr q G H G' H' ∧ Exx Gw G' ∧ RpL K G' ys acc ∧ I items i acc, ⟨items.length, rfl, Nat.zero_le _, Gw, [], gw2, Exx.refl _, .nil, h0 items rw_⟩, ?_⟩
  rintro i m ys H1 ⟨rfl, hi, G1, acc, g1, e1, r1, i1⟩
  obtain ⟨wg, wst⟩ := wk G1 H1 e1 g1.sub
  by_cases hlt : i < items.length
  · obtain ⟨go, yl⟩ := wg i hlt
    refine .inr ⟨go, fun ys' H' => ∃ G' acc, Gr q G H G' H' ∧ Exx Gw G' ∧ RpL K G' ys' acc ∧ I items (i + 1) acc, fun ys' H' h => ⟨items.length - (i + 1), by omega, rfl, hlt, h⟩, fun x H2 y => ?_⟩
    obtain ⟨G2, d, g2, hd', rx⟩ := yl x H2 y
    have s1 := s.go g1
    have s2 := sta_wipe (s1.go g2.any) vs
    obtain ⟨js, Δ2, hjs, ht, hb⟩ := hs items i d acc rw_ hd' i1
    refine ht q G0 H0 G2 H2 (wipe σ vs) x _ s2 rx fun σ3 s3 w3 => ⟨(w3 vs hjs).trans (wipe_wipe fun v hv => hv), ?_⟩
    refine hb q G0 H0 G2 H2 σ3 _ s3 (fun b G3 H3 g3 p3 => ?_) fun _ _ _ _ z => z.elim
    have g13 : Gr q G1 H1 G3 H3 := s1.tr g2.any g3
    cases b with
    | false => exact iteF ⟨G3, acc, s.tr g1 g13, e1.trans g13.ex, r1.ex g13.ex, p3.2 rfl⟩
    | true =>
      refine iteT ((p3.1 rfl) q G0 H0 G3 H3 σ3 _ (s3.go g3) (fun u e G4 H4 g4 r4 p4 => ?_) fun _ _ _ _ z => z.elim)
      have g14 : Gr q G1 H1 G4 H4 := s1.tr g13 g4
      exact ⟨by rw [r1.length]; exact p4.1, G4, acc ++ [e], s.tr g1 g14, e1.trans g14.ex, (r1.ex g14.ex).append (.cons r4 .nil), p4.2⟩
  · have e : i = items.length := by omega
    subst e
    obtain ⟨hl, hR⟩ := hd items acc rw_ i1
    refine .inl ⟨wst, by rw [r1.length]; exact hl, by rw [r1.length]; exact hl, fun p hp => ?_⟩
    have g := Gr.new (o := .tup ys) g1.sub hp
    exact k _ _ _ _ (s.tr g1 g.any) (.tup (.inl (.inl upd_same)) (r1.ex g.ex)) hR
/-- .. no test, each element with its value -/
theorem ev1_tupGe {g : TG} {vs : List Nat} {items : List D} (f : Nat → D → D) (hw : Ew K E wi Δ (· = items) X) (hl : items.length ≤ 1000000)
    (hs : ∀ i d, items[i]? = some d → ∃ js Δ2, (∀ j ∈ js, j ∈ vs) ∧ Tg K g js (wipeE Δ vs) d Δ2 ∧ Ev K E00 te Δ2 (· = f i d) fun _ => False) : Ev K E (tTupG (tGe Tt.tb wi g tYes te vs)) Δ (· = .tup (items.mapIdx f)) X := by
  refine ev_tupGe hw (fun its i acc => acc = (its.take i).mapIdx f) (fun its _ => rfl) (fun its i d acc e hi ea => ?_) fun its acc e ea => ?_
  · subst e
    obtain ⟨js, Δ2, h1, h2, h3⟩ := hs i d hi
    have hlt := (List.getElem?_eq_some_iff.mp hi).1
    refine ⟨js, Δ2, h1, h2, et_yes.imp fun b eb => ⟨fun _ => h3.imp fun z ez => ⟨?_, ?_⟩, fun c => by rw [eb] at c; cases c⟩⟩
    · rw [ea, List.length_mapIdx, List.length_take]
      exact szlt (by omega)
    · have et : its.take (i + 1) = its.take i ++ [d] := by
        rw [List.take_add_one, hi]; rfl
      rw [et, List.mapIdx_append, ea, ez]
      have lt : (its.take i).length = i := by rw [List.length_take]; omega
      simp [lt]
  · subst e
    rw [ea, List.take_length]
    exact ⟨by rw [List.length_mapIdx]; exact szl hl, rfl⟩
end
/-! ### told by two clauses -/
def TTold2 (K : PySem.W.Frag) (C1 : Addr) (r1 : Str) (C2 : Addr) (r2 : Str) : (XK → Hp → VK → Prop) → Hp → VK → Prop := fun tl H Q =>
  tl (fun cls _ H' => ∃ b, PySem.W.exmOne K cls (.ref C1) = some b ∧ (b = true → Q (.str r1) H') ∧ (b = false → ∃ b2, PySem.W.exmOne K cls (.ref C2) = some b2 ∧ (b2 = true → Q (.str r2) H') ∧ (b2 = false → False))) H Q
section
variable {X : Cx}
theorem told_gives2 {Ng : List Str} {x a q r1 r2 e1 e2 : Str} {sg : Scope} {g C1 C2 : Addr} {cdg : Value} {j1 j2 : Nat} {p1 p2 p3 p4 p5 p6 p7 p8 p9 p10 p11 p12 : Pos} (hg1 : sg.names.lookup e1 = some .globalImplicit) (hg2 : sg.names.lookup e2 = some .globalImplicit) (hm1 : X.mg e1 = some (.ref C1)) (hm2 : X.mg e2 = some (.ref C2))
    (hd1 : (e1 == ("__debug__" : Str)) = false) (hd2 : (e2 == ("__debug__" : Str)) = false) (h0 : ∀ f : Addr, (L2.start Ng [V.ref f])[0]? = some (some (V.ref f))) :
    LamX.GivesTo X Ng x sg g cdg [.Try [.Return (some (.Call (.Name a p1) [] [] p2)) p3] [.ExceptHandler (some (.Name e1 p4)) none [.Return (some (.Constant (.str r1) j1 p5)) p6] p7, .ExceptHandler (some (.Name e2 p8)) none [.Return (some (.Constant (.str r2) j2 p9)) p10] p11] [] [] p12] a q (TTold2 X.K C1 r1 C2 r2) := by
  intro f c' s H Q tl act hc h
  have gl1 : Gl (cxOf C8.CX0 X.prog X.w X.K X.mg X.base Ng x sg g cdg X.A X.stack s H C8.E0).nox e1 := hg1
  have gl2 : Gl (cxOf C8.CX0 X.prog X.w X.K X.mg X.base Ng x sg g cdg X.A X.stack s H C8.E0).nox e2 := hg2
  refine ⟨_, pss_one (ps_try_many (X := (cxOf C8.CX0 X.prog X.w X.K X.mg X.base Ng x sg g cdg X.A X.stack s H C8.E0).nox)
      (tb := fun W D σ H => ∃ Ech : XK, (∀ cls d σ' H', Ech cls d H' → W cls d σ' H') ∧ σ[0]? = some (some (.ref f)) ∧ H c' = some (LamX.CodeO c' q) ∧ tl Ech H D.rt)
      rfl rfl LamX.takes0 (fun W pn xe tk _ => ?_) (.cons (c := .ref C1) (ts := fun _ _ _ => tRet (tC (.str r1))) ⟨gl1, hd1, .inl hm1⟩ (fun a oe cls d pn _ _ => pss_one (ps_ret pe_str)) (.cons (c := .ref C2) (ts := fun _ _ _ => tRet (tC (.str r2))) ⟨gl2, hd2, .inl hm2⟩ (fun a oe cls d pn _ _ => pss_one (ps_ret pe_str)) .nil))), ?_⟩
  · refine ⟨fun pins s' σ H' D I h' => ?_⟩
    obtain ⟨Ech, hW, h1, h2, h3⟩ := h'
    exact (pss_one (ps_ret (pos := p3) (act W pn xe Ech p1 p2 tk hW))).run pins s' σ H' D I ⟨h1, h2, h3⟩
  · exact ⟨_, fun cls d σ' H' ⟨b, z1, z2, z3⟩ => ⟨b, z1, fun hb a _ => z2 hb, fun hb => by
      obtain ⟨b2, y1, y2, y3⟩ := z3 hb
      exact ⟨b2, y1, fun hb a _ => y2 hb, fun hb => y3 hb⟩⟩, h0 f, hc, h⟩
theorem pe_told2 {k : Nat} {c P C1 C2 g : Addr} {x e1 e2 r1 r2 : Str} {pg : Arguments} {sg : Scope} {fd : FuncData} {j1 j2 : Nat} {p1 p2 p3 p4 p5 p6 p7 p8 p9 p10 p11 p12 lpos p pos : Pos} {params : Arguments} {body : Expr} {scope : Scope} {t : XK → TE}
    (F : FunD X.K x x pg [.Try [.Return (some (.Call (.Name "what" p1) [] [] p2)) p3] [.ExceptHandler (some (.Name e1 p4)) none [.Return (some (.Constant (.str r1) j1 p5)) p6] p7, .ExceptHandler (some (.Name e2 p8)) none [.Return (some (.Constant (.str r2) j2 p9)) p10] p11] [] [] p12] sg [] [] g fd)
    (hm : X.mg x = some (.ref g)) (hb : Binds X.K fd ["what"] []) (Sg : FnScope ["what"] ["what"] sg) (hva : Vis sg "what") (hg1 : sg.names.lookup e1 = some .globalImplicit) (hg2 : sg.names.lookup e2 = some .globalImplicit) (hm1 : X.mg e1 = some (.ref C1)) (hm2 : X.mg e2 = some (.ref C2))
    (TB : LamX.TabB X.base X.mg c P) (hcode : X.env.code = .ref c) (hmT : (P, X.env.qual ++ "<lambda>") ∈ Tt.tb) (hu : ∀ p ∈ Tt.tb, p.1 = P → p.2 = X.env.qual ++ "<lambda>") (hr : Room (k + 2) X.A) (hg : Gl X x) (L : LamX.LamS X.env.scope scope) (hdef : defaultsOf params X.env = ([], []))
    (hbind : ∀ (q : Str) (cl : List (Str × Addr)) (pm cv ctv : Value), bindArgs (PySem.W.kla_fn "<lambda>" q params body scope cl pm cv ctv) ⟨[], []⟩ = pure [])
    (hbody : ∀ (A : Around) (outer : List Env) (s : Shared) (H : Hp) (E : XK) (f c' : Addr), Room k (A.deeper (LamX.lamEnv X scope s.heap.objs.size f c')) → PE (LamX.lamCx X A outer s H E scope f c') body (t E))
    (hdb : (x == ("__debug__" : Str)) = false := by decide) (hd1 : (e1 == ("__debug__" : Str)) = false := by decide) (hd2 : (e2 == ("__debug__" : Str)) = false := by decide) :
    PE X (.Call (.Name x p) [.Lambda params body scope lpos] [] pos) (LamX.tLam Tt.tb (TTold2 X.K C1 r1 C2 r2) t) := by
  have kp := F.kp
  obtain ⟨oc, od, dV, kV, doc, pm, an, cdv, ct, osl, rfl, lk, hcd, _, _⟩ := F.ex
  exact LamX.pe_lamcall (Ng := ["what"]) hg hm kp lk hcd hb Sg rfl hva (told_gives2 hg1 hg2 hm1 hm2 hd1 hd2 fun _ => rfl) TB hcode hmT hu hr L hdef hbind hbody hdb
end
section
variable {K : PySem.W.Frag} {E : L2.St → XK} {Δ : En} {R : D → Prop} {X : Addr → Prop}
/-- the exception C is told as r -/
def Told2 (K : PySem.W.Frag) (C1 : Addr) (r1 : Str) (C2 : Addr) (r2 : Str) (C : Addr) (r : Str) : Prop := (PySem.W.exmOne K (.ref C) (.ref C1) = some true ∧ r = r1) ∨ (PySem.W.exmOne K (.ref C) (.ref C1) = some false ∧ PySem.W.exmOne K (.ref C) (.ref C2) = some true ∧ r = r2)
theorem ev_told2 {i : Nat} {t : XK → TE} {C1 C2 : Addr} {r1 r2 : Str} {Xb : Addr → Prop} {ret : Addr → Str} (hi : Δ[i]? = some Sl.dice) (h : ∀ EL, Ev K (fun _ => EL) (t EL) Δ R Xb) (hx : ∀ C, Xb C → Told2 K C1 r1 C2 r2 C (ret C)) :
    Ev K E (LamX.tLam Tt.tb (TTold2 K C1 r1 C2 r2) t) Δ (fun d => R d ∨ ∃ C, Xb C ∧ d = .str (ret C)) X := fun q G0 H0 G H σ Q s k kx => by
  obtain ⟨a, rfl, ha⟩ := s.rs.dice i hi
  obtain ⟨n1, dq⟩ := s.rs.gq a rfl
  refine ⟨s.rs.tb, fun H1 e1 T1 => ?_⟩
  have g : Gr (some a) G H G H1 := Gr.tabs s.sub e1 T1
  refine h _ (some a) G0 H0 G H1 σ Q (s.go g) (fun v d G' H' g' rv p => k v d G' H' (s.tr g g') rv (.inl p)) fun C G' H' g' x => ?_
  rcases hx C x with ⟨z1, z2⟩ | ⟨z1, z2, z3⟩
  · exact ⟨true, z1, fun _ => k _ _ G' H' (s.tr g g') (.str _) (.inr ⟨C, x, by rw [z2]⟩), fun z => by cases z⟩
  · exact ⟨false, z1, fun z => (by cases z), fun _ => ⟨true, z2, fun _ => k _ _ G' H' (s.tr g g') (.str _) (.inr ⟨C, x, by rw [z3]⟩), fun z => by cases z⟩⟩
end
end Ts


/-! Texts, told by their signs. -/
namespace Ts
open PySem PySem.Spec PyProof.Rows L2
/-! ### a text of signs -/
def sx (cs : List Nat) : Str := ⟨cs.toArray⟩
abbrev tD (cs : List Nat) : D := .str (sx cs)
theorem sx_cps (cs : List Nat) : (sx cs).cps.toList = cs := by simp [sx]
theorem sx_len (cs : List Nat) : (sx cs).length = cs.length := by simp [sx, Str.length]
theorem sx_of (z : Str) : sx z.cps.toList = z := by cases z; simp [sx]
theorem sx_inj {a b : List Nat} (h : sx a = sx b) : a = b := by rw [← sx_cps a, h, sx_cps]
theorem sx_app (a b : List Nat) : sx a ++ sx b = sx (a ++ b) := by
  show Str.append (sx a) (sx b) = _
  simp [Str.append, sx]
theorem sx_eq (a b : List Nat) : decide (sx a = sx b) = decide (a = b) := by
  rw [decide_eq_decide]
  exact ⟨sx_inj, fun e => by rw [e]⟩
theorem cut_sx {cs : List Nat} {a b : Nat} : cutS (sx cs) (some (a : Int)) (some (b : Int)) = sx ((cs.take b).drop a) := by
  unfold cutS
  rw [sx_len, HT.sIx_nat, HT.sIx_nat, sx_cps]
  show sx _ = sx _
  congr 1
  refine List.ext_getElem? fun i => ?_
  rw [List.getElem?_take, List.getElem?_drop, List.getElem?_drop, List.getElem?_take]
  by_cases h : a + i < cs.length
  · by_cases hb : a + i < b
    · rw [if_pos (by omega), if_pos hb, Nat.min_eq_left (by omega)]
    · rw [if_neg (by omega), if_neg hb]
  · by_cases hb : a + i < b
    · rw [if_pos hb, List.getElem?_eq_none (l := cs) (i := a + i) (by omega)]
      split
      · exact List.getElem?_eq_none (by omega)
      · rfl
    · rw [if_neg hb]
      split
      · exact List.getElem?_eq_none (by omega)
      · rfl
theorem cut_from {cs : List Nat} {a : Nat} : cutS (sx cs) (some (a : Int)) none = sx (cs.drop a) := by
  unfold cutS
  rw [sx_len, HT.sIx_nat, HT.sIx_none, sx_cps]
  show sx _ = sx _
  congr 1
  by_cases h : a ≤ cs.length
  · rw [Nat.min_eq_left h, List.take_of_length_le (by rw [List.length_drop]; omega)]
  · rw [Nat.min_eq_right (by omega), List.drop_of_length_le (Nat.le_refl _), List.drop_of_length_le (by omega)]
    simp
/-! ### readings -/
abbrev tFs (ts : List TE) : TE := fun σ H Q => tJs ts Str.empty σ H fun out H1 => Q (.str out) H1
def rSgn (neg : Bool) : R2 := fun x y H Q => ∃ (c : Nat) (z : Str), x = .str ⟨#[c]⟩ ∧ y = .str z ∧ Q (.bl (if neg then !decide (c ∈ z.cps.toList) else decide (c ∈ z.cps.toList))) H
def rInH (K : PySem.W.Frag) (neg : Bool) : R2 := fun x y H Q => rInG K neg x y H Q ∨ rSgn neg x y H Q
def rRepS : R2 := fun x y H Q => ∃ (a : Str) (n : Int), x = .str a ∧ y = .int n ∧ MulOk a n ∧ Q (.str (Txt.mul a n)) H
def rMulH (K : PySem.W.Frag) : R2 := fun x y H Q => rMulG K x y H Q ∨ rRepS x y H Q
def rIntH : List V → Hp → VK → Prop := fun xs H Q => rInt1 xs H Q ∨ ∃ a n, xs = [.str a] ∧ PySem.intText? a = some n ∧ a.length ≤ 640 ∧ Q (.int n) H
def rStrI : List V → Hp → VK → Prop := fun xs H Q => ∃ i, xs = [.int i] ∧ i.natAbs.log2 < 1920 ∧ Q (.str (toString i)) H
def rLower : V → List V → Hp → VK → Prop := fun x xs H Q => ∃ a, x = .str a ∧ xs = [] ∧ a.length ≤ 5592405 ∧ Q (.str (Txt.lower a)) H
def rUpper : V → List V → Hp → VK → Prop := fun x xs H Q => ∃ a, x = .str a ∧ xs = [] ∧ a.length ≤ 5592405 ∧ Q (.str (Txt.upper a)) H
def rFind : V → List V → Hp → VK → Prop := fun x xs H Q => ∃ a b, x = .str a ∧ xs = [.str b] ∧ Q (.int (Txt.find a b)) H
def rJoin (K : PySem.W.Frag) : V → List V → Hp → VK → Prop := fun x xs H Q => ∃ a p, ∃ ys : List Str, x = .str a ∧ xs = [.ref p] ∧ (SqL K H p (ys.map V.str) ∨ SqT K H p (ys.map V.str)) ∧ (ys.map (·.length)).sum + ys.length * a.length ≤ 16777216 ∧ Q (.str (Txt.join a ys)) H
section
variable [Tt] {X : Cx}
theorem op_inH : OpR X (compareOp .In) (rInH X.K false) := OpR.or op_inG fun pins s σ H x y v u Q I rx ry ⟨c, z, h1, h2, q⟩ => op_in_sign pins s σ H x y v u Q I rx ry ⟨c, z, h1, h2, q⟩
theorem op_notInH : OpR X (compareOp .NotIn) (rInH X.K true) := OpR.or op_notInG fun pins s σ H x y v u Q I rx ry ⟨c, z, h1, h2, q⟩ => op_notIn_sign pins s σ H x y v u Q I rx ry ⟨c, z, h1, h2, q⟩
theorem op_repS : OpR X (binaryOp .Mult) rRepS := fun pins s σ H x y v u Q I rx ry ⟨a, n, h1, h2, ok, q⟩ => by
  subst h1; subst h2
  obtain ⟨t, rfl⟩ := rx
  obtain ⟨t', rfl⟩ := ry
  exact PySem.SB.mul ok fun t2 k => ⟨.str _, H, I.tok k, ⟨_, rfl⟩, q⟩
theorem op_mulH : OpR X (binaryOp .Mult) (rMulH X.K) := OpR.or op_mulG op_repS
theorem call_intH : CallR X (.type "int") rIntH := CallR.or call_intG fun pins s σ H xs us Q I r ⟨a, n, h1, h2, h3, q⟩ => call_int_str pins s σ H xs us Q I r ⟨a, n, h1, h2, h3, q⟩
theorem call_strI : CallR X (.type "str") rStrI := call_str_int
theorem pe_lowerT {o : Expr} {to : TE} {apos pos : Pos} (ho : PE X o to) (hbase : attributeBase o "lower" X.env (eval o X.env) = eval o X.env := by rfl) (hline : (apos.endLine == pos.line) = true := by rfl) : PE X (.Call (.Attribute o "lower" apos) [] [] pos) (tM0 rLower to) := pe_lower ho hbase hline
theorem pe_upperT {o : Expr} {to : TE} {apos pos : Pos} (ho : PE X o to) (hbase : attributeBase o "upper" X.env (eval o X.env) = eval o X.env := by rfl) (hline : (apos.endLine == pos.line) = true := by rfl) : PE X (.Call (.Attribute o "upper" apos) [] [] pos) (tM0 rUpper to) := pe_upper ho hbase hline
theorem pe_findT {o e : Expr} {to te : TE} {apos pos : Pos} (ho : PE X o to) (he : PE X e te) (hs : starEach [e] X.env = [(false, eval e X.env)] := by rfl) (hbase : attributeBase o "find" X.env (eval o X.env) = eval o X.env := by rfl) (hline : (apos.endLine == pos.line) = true := by rfl) :
    PE X (.Call (.Attribute o "find" apos) [e] [] pos) (tM1 rFind to te) := pe_m1 F.slot_str_find F.type_str_find mt_find ho he hs hbase hline
theorem pe_joinT {o e : Expr} {to te : TE} {apos pos : Pos} (ho : PE X o to) (he : PE X e te) (hs : starEach [e] X.env = [(false, eval e X.env)] := by rfl) (hbase : attributeBase o "join" X.env (eval o X.env) = eval o X.env := by rfl) (hline : (apos.endLine == pos.line) = true := by rfl) :
    PE X (.Call (.Attribute o "join" apos) [e] [] pos) (tM1 (rJoin X.K) to te) := pe_join ho he hs hbase hline
/-- 'c' op f: behind a written text a token is out -/
theorem pe_opC {op : Operator} {r : R2} {f : Expr} {tf : TE} {c : Str} {j : Nat} {cp pos : Pos} (ho : OpR X (binaryOp op) r) (hb : PET X f tf) : PE X (.BinOp (.Constant (.str c) j cp) op f pos) (tOp r (tC (.str c)) tf) := by
  refine ⟨fun pins s σ H Q I h => ?_⟩
  refine wpAny_BinOp ?_
  refine Calls.Constant_str ?_
  exact thn (hb pins { s with toks := s.toks + 1 } σ H _ (Nat.le_add_left 1 _) (I.tok _) h) fun u s2 ⟨y, H2, I2, r2, q2⟩ => ho pins s2 σ H2 (.str c) y _ u Q I2 ⟨_, rfl⟩ r2 q2
end
/-! ### tuples of texts that stand in the written part -/
def strOf : Value → Option Str
  | .str z _ => some z
  | _ => none
def tupStr (K : PySem.W.Frag) (a : Addr) (xs : List Str) : Bool := match K.lookup a with
  | some o => decide (o.cls = .type "tuple") && (match o.data with
    | .seq its _ => decide (its.size ≤ sizeLine) && decide (its.toList.map strOf = xs.map some)
    | _ => false)
  | none => false
theorem vals_strs : ∀ {xs : List Str} {its : List Value}, its.map strOf = xs.map some → Vals (xs.map V.str) its
  | [], [], _ => .nil
  | [], _ :: _, h => by simp at h
  | _ :: _, [], h => by simp at h
  | x :: xs, v :: its, h => by
    rw [List.map_cons, List.map_cons, List.cons.injEq] at h
    refine .cons ?_ (vals_strs h.2)
    have h1 := h.1
    cases v with
    | str z t =>
      have e : z = x := by simpa [strOf] using h1
      exact ⟨t, by rw [e]⟩
    | _ => exact absurd h1 (by simp [strOf])
theorem tupStr_ok {K : PySem.W.Frag} {a : Addr} {xs : List Str} (h : tupStr K a xs = true) : ∀ H, SqT K H a (xs.map V.str) := fun H => by
  unfold tupStr at h
  cases hk : K.lookup a with
  | none => rw [hk] at h; cases h
  | some o =>
    rw [hk] at h
    simp only [Bool.and_eq_true, decide_eq_true_eq] at h
    obtain ⟨h1, h2⟩ := h
    cases hd : o.data with
    | seq its n =>
      rw [hd] at h2
      simp only [Bool.and_eq_true, decide_eq_true_eq] at h2
      exact .inr ⟨o, its, n, hk, h1, hd, h2.1, vals_strs h2.2⟩
    | _ => rw [hd] at h2; cases h2
/-! ### by data -/
section
variable [Tt] {K : PySem.W.Frag} {E : L2.St → XK} {Δ : En} {X : Addr → Prop} {te tf : TE}
theorem RpL.strs {G : Hp} : ∀ xs : List Str, RpL K G (xs.map V.str) (xs.map D.str)
  | [] => .nil
  | x :: xs => .cons (.str x) (RpL.strs xs)
theorem ev_tupC {a : Addr} {xs : List Str} (h : ∀ H, SqT K H a (xs.map V.str)) : Ev K E (tC (.ref a)) Δ (· = .tup (xs.map D.str)) X := ev_ctup h fun G => RpL.strs xs
theorem od_inS {c : Nat} {cs : List Nat} {neg : Bool} : OpD K (rInH K neg) (tD [c]) (tD cs) (· = .bl (if neg then !decide (c ∈ cs) else decide (c ∈ cs))) := fun G H v w Q e r1 r2 k => by
  rw [r1.str_inv, r2.str_inv]
  refine .inr ⟨c, sx cs, rfl, rfl, ?_⟩
  rw [sx_cps]
  exact ret1 e (.bl _) k
theorem od_inW {w : Str} {xs : List Str} {neg : Bool} : OpD K (rInH K neg) (.str w) (.tup (xs.map D.str)) (· = .bl (if neg then !inV (.str w) (xs.map V.str) else inV (.str w) (xs.map V.str))) :=
  od_inl (od_inT (v := .str w) (vs := xs.map V.str) rfl (by rw [List.map_map, List.map_map]; rfl) rfl (by rw [List.all_map, List.all_eq_true]; exact fun _ _ => rfl))
theorem od_at {cs : List Nat} {i : Int} {j c : Nat} (hz : cs.length ≤ 1000000) (e : i = (j : Int)) (h : cs[j]? = some c) : OpD K (rIx K) (tD cs) (.int i) (· = tD [c]) := by
  subst e
  exact od_ixS (by rw [sx_len]; exact szl hz) (atI_nn (by omega) (by rw [Int.toNat_natCast, sx_cps]; exact h))
theorem ev_app {a b : List Nat} (h : Ev K E te Δ (· = tD a) X) (h2 : Ev K E tf Δ (· = tD b) X) (hz : a.length + b.length ≤ 1000000) : Ev K E (tOp (rAddG K) te tf) Δ (· = tD (a ++ b)) X :=
  ev_is (ev1_op h h2 (od_catS (by rw [sx_len, sx_len]; exact szl hz))) (by rw [sx_app])
theorem ev_tlen {a : List Nat} (h : Ev K E te Δ (· = tD a) X) (hz : a.length ≤ 1000000) : Ev K E (tCB (rLenC K) (tCons te tNil)) Δ (· = .int (a.length : Nat)) X :=
  ev_is (ev1_cb (ea1_cons h ea_nil) (cd_lenS (by rw [sx_len]; exact szl hz))) (by rw [sx_len])
theorem od_eqT {a b : List Nat} : OpD K (rEqG K) (tD a) (tD b) (· = .bl (decide (a = b))) := by
  have h := od_eqX (K := K) (i := sx a) (j := sx b)
  rw [sx_eq] at h
  exact h
theorem od_neT {a b : List Nat} : OpD K (rNeG K) (tD a) (tD b) (· = .bl (!decide (a = b))) := by
  have h := od_neX (K := K) (i := sx a) (j := sx b)
  rw [sx_eq] at h
  exact h
theorem iadT {a b : List Nat} (hz : a.length + b.length ≤ 1000000) : OpD K (rIAddA K) (tD a) (tD b) (· = tD (a ++ b)) := by
  have h := od_inl (r' := rCatA K) (iads (K := K) (i := sx a) (j := sx b) (by rw [sx_len, sx_len]; exact szl hz))
  rw [sx_app] at h
  exact h
theorem ev_m0 {r : V → List V → Hp → VK → Prop} {a : Str} {d : D} (h : Ev K E te Δ (· = .str a) X) (hr : ∀ (G H : Hp) (Q : VK), Exx G H → (∀ v G' H', Gr none G H G' H' → Rp K G' v d → Q v H') → r (.str a) [] H Q) : Ev K E (tM0 r te) Δ (· = d) X := fun q G0 H0 G H σ Q s k kx =>
  h q G0 H0 G H σ _ s (fun v d' G1 H1 g1 r1 p1 => by
    subst p1
    rw [r1.str_inv]
    exact ⟨⟨a, rfl⟩, hr G1 H1 Q g1.sub fun v G' H' g rv => k v d G' H' (s.tr g1 g.any) rv rfl⟩) kx
theorem ev_m1 {r : V → List V → Hp → VK → Prop} {a : Str} {b d : D} (h : Ev K E te Δ (· = .str a) X) (h2 : Ev K E tf Δ (· = b) X) (hr : ∀ (G H : Hp) (w : V) (Q : VK), Exx G H → Rp K G w b → (∀ v G' H', Gr none G H G' H' → Rp K G' v d → Q v H') → r (.str a) [w] H Q) : Ev K E (tM1 r te tf) Δ (· = d) X := fun q G0 H0 G H σ Q s k kx =>
  h q G0 H0 G H σ _ s (fun v d' G1 H1 g1 r1 p1 => by
    subst p1
    rw [r1.str_inv]
    refine ⟨⟨a, rfl⟩, h2 q G0 H0 G1 H1 σ _ (s.go g1) (fun w e G2 H2 g2 r2 p2 => ?_) fun C G' H' g x => kx C G' H' (s.tr g1 g) x⟩
    subst p2
    exact hr G2 H2 w Q g2.sub r2 fun v G' H' g rv => k v d G' H' (s.tr (s.tr g1 g2) g.any) rv rfl) kx
theorem ev_lower {a : Str} (h : Ev K E te Δ (· = .str a) X) (hz : a.length ≤ 1000000) : Ev K E (tM0 rLower te) Δ (· = .str (Txt.lower a)) X := ev_m0 h fun G H Q e k => ⟨a, rfl, rfl, by omega, k _ G H (Gr.refl e) (.str _)⟩
theorem ev_upper {a : Str} (h : Ev K E te Δ (· = .str a) X) (hz : a.length ≤ 1000000) : Ev K E (tM0 rUpper te) Δ (· = .str (Txt.upper a)) X := ev_m0 h fun G H Q e k => ⟨a, rfl, rfl, by omega, k _ G H (Gr.refl e) (.str _)⟩
theorem ev_find {a b : Str} (h : Ev K E te Δ (· = .str a) X) (h2 : Ev K E tf Δ (· = .str b) X) : Ev K E (tM1 rFind te tf) Δ (· = .int (Txt.find a b)) X := ev_m1 h h2 fun G H w Q e r k => ⟨a, b, rfl, by rw [r.str_inv], k _ G H (Gr.refl e) (.int _)⟩
theorem ev_join {a : Str} {ys : List Str} (h : Ev K E te Δ (· = .str a) X) (h2 : Ev K E tf Δ (· = .lst (ys.map D.str)) X) (hz : (ys.map (·.length)).sum + ys.length * a.length ≤ 1000000) : Ev K E (tM1 (rJoin K) te tf) Δ (· = .str (Txt.join a ys)) X := ev_m1 h h2 fun G H w Q e r k => by
  obtain ⟨p, xs, rfl, hx, rl⟩ := r.lst_inv
  rw [RpL.strs_inv rl] at hx
  exact ⟨a, p, ys, rfl, rfl, .inl (.inl (.inl (e.l hx))), by omega, k _ G H (Gr.refl e) (.str _)⟩
theorem ev_intT {a : Str} {n : Int} (h : Ev K E te Δ (· = .str a) X) (hn : PySem.intText? a = some n) (hz : a.length ≤ 640) : Ev K E (tCB rIntH (tCons te tNil)) Δ (· = .int n) X := ev1_cb (ea1_cons h ea_nil) fun G H vs Q e r k => by
  cases r with
  | cons ra rr =>
    cases rr
    rw [ra.str_inv]
    exact .inr ⟨a, n, rfl, hn, hz, ret1 e (.int _) k⟩
theorem ev_strI {i : Int} (h : Ev K E te Δ (· = .int i) X) (hz : i.natAbs.log2 < 1920) : Ev K E (tCB rStrI (tCons te tNil)) Δ (· = .str (toString i)) X := ev1_cb (ea1_cons h ea_nil) fun G H vs Q e r k => by
  cases r with
  | cons ra rr =>
    cases rr
    rw [ra.int_inv]
    exact ⟨i, rfl, hz, ret1 e (.str _) k⟩
theorem ev_repl {a y z : Str} (h : Ev K E te Δ (· = .str a) X) (hz : a.length + (a.length + 1) * z.length ≤ 1000000) : Ev K E (CwR.tReplC te y z) Δ (· = .str (Txt.replace a y z)) X := fun q G0 H0 G H σ Q s k kx =>
  h q G0 H0 G H σ _ s (fun v d' G1 H1 g1 r1 p1 => by
    subst p1
    rw [r1.str_inv]
    exact ⟨a, rfl, by omega, k _ _ G1 H1 g1 (.str _) rfl⟩) kx
end
end Ts


/-! Instances that change: in a slot of their own; calls of their methods; room that counts frames one by one. -/
namespace L2
open PySem PySem.Spec PyProof.Rows
structure RoomF (k : Nat) (A : Around) : Prop where
  hd : A.handled = none
  dp : A.depth + k + 60 < recursionLimit
  un : A.units + 5 * k + 600 < cLine
theorem RoomF.mono {j k : Nat} {A : Around} (r : RoomF k A) (h : j ≤ k) : RoomF j A := ⟨r.hd, by have := r.dp; omega, by have := r.un; omega⟩
theorem RoomF.deeper {k : Nat} {A : Around} (r : RoomF (k + 1) A) (env : Env) : RoomF k (A.deeper env) :=
  ⟨r.hd, by have := r.dp; show A.depth + 1 + k + 60 < _; omega, by have := r.un; show A.units + 3 + 5 * k + 600 < _; omega⟩
theorem RoomF.room {k : Nat} {A : Around} (r : RoomF k A) : Room 17 A := ⟨r.hd, by have := r.dp; omega, by have := r.un; omega⟩
theorem Room.fine {k j : Nat} {A : Around} (r : Room k A) (h : j + 55 ≤ 3 * k) (h2 : 5 * j + 400 ≤ 16 * k) : RoomF j A := ⟨r.hd, by have := r.dp; omega, by have := r.un; omega⟩
structure FnF (P : Program) (w : World) (K : PySem.W.Frag) (mg : Str → Option Value) (base : Heap) (CX : CXT) (k : Nat) (f : Addr) (fd : FuncData) (ps : List Str) (sp : Sp) : Prop where
  len : ∀ vs H Q E, sp vs H Q E → vs.length = ps.length
  run : ∀ (A : Around) (outer : List Env) (s : Shared) (H : Hp) (args : Args) (us : List Value) (vs : List V) (Q : VK) (E : XK), RoomF k A → Env0 P w K mg base A outer s H → BindsTo s fd args (ps.zip us) → Vals vs us → sp vs H Q E →
    codeAny (model P w) A (.call (.ref f) args) (CR CX outer P w H s Q E) s
theorem fnF_of {CX : CXT} {P : Program} {w : World} {K : PySem.W.Frag} {mg : Str → Option Value} {base : Heap} {k : Nat} {f : Addr} {name qual : Str} {params : Arguments} {body : List Stmt} {scope : Scope} {dV kV doc pm cdv ct oc : Value} {an od : Option Addr}
    {osl : Array (Option Value)} {N ps : List Str} {sp : Sp} (lk : K.lookup f = some ⟨oc, od, .func (PySem.W.fnOf name qual params body scope dV kV doc pm an cdv ct), osl⟩) (hcd : PySem.W.codeIn K cdv qual = true) (S : FnScope N ps scope)
    (len : ∀ vs H Q E, sp vs H Q E → vs.length = ps.length)
    (hbody : ∀ (A : Around) (outer : List Env) (s : Shared) (H : Hp) (vs : List V) (Q : VK) (E : XK), RoomF k (A.deeper (envOfC qual scope s.heap.objs.size f cdv)) → sp vs H Q E →
      ∃ t, PSs (cxOf CX P w K mg base N qual scope f cdv A outer s H E) body t ∧ t { nx := fun _ H' => Q .non H', rt := Q } (start N vs) H) :
    FnF P w K mg base CX (k + 1) f (PySem.W.fnOf name qual params body scope dV kV doc pm an cdv ct) ps sp := by
  refine ⟨len, fun A outer s H args us vs Q E hr e0 hb r hsp => ?_⟩
  have hl := len _ _ _ _ hsp
  have KX : K.In s.heap := e0.mod.kin.keeps fun b o e => (e0.bs b o e).1
  have lim : s.heap.NoLimit := e0.mod.nolimit.keeps fun b o e => (e0.bs b o e).1
  have hkind : ∀ y ∈ ps.zip us, scope.names.lookup y.1 = some .local ∨ (scope.names.lookup y.1 = some .cell ∧ ((cellsFrom (s.heap.objs.size + 1) scope.names []).lookup y.1).isSome = true) := fun ⟨n, v⟩ hy => by
    rcases S.par n (List.of_mem_zip hy).1 with q | q
    · exact .inl q
    · exact .inr ⟨q, PySem.W.cellsFrom_some _ _ _ (.inl q)⟩
  refine codeAny_call_function hr.room.depth (KX _ _ lk) rfl S.co S.gen rfl (PySem.W.codeRec_of KX hcd) (hb _ _ _ _ ?_)
  refine wpAny_newFunctionEnv_cells S.kind hkind fun env he s1 x => ?_
  subst he
  refine ⟨lim.keeps x.toInCall.keep, codeAny_func ?_⟩
  obtain ⟨t, ht, hq⟩ := hbody A outer s H vs Q E (hr.deeper _) hsp
  have I : Inv (cxOf CX P w K mg base N qual scope f cdv A outer s H E) [] (start N vs) H s1 := inv_start S hr.hd e0 hl r x
  refine wpAny_mono (ht.run [] s1 (start N vs) H _ I hq) (fun fl s' hs => ?_) fun e s' hs => hs
  have fin : ∀ {σ' : St} {H' : Hp} {v : V} {u : Value}, Inv (cxOf CX P w K mg base N qual scope f cdv A outer s H E) [] σ' H' s' → RelV v u → Q v H' → CE outer P w H s Q u s' :=
    fun {σ' H' v u} J rv q => ⟨v, H', J.os, J.bare, J.base, J.hok, rv, q⟩
  cases fl with
  | ret u =>
    obtain ⟨v, σ', H', J, rv, q⟩ := hs
    exact fin J rv q
  | next =>
    obtain ⟨σ', H', J, q⟩ := hs
    exact fin (v := V.non) (u := Value.none) J rfl q
  | brk =>
    obtain ⟨_, _, _, q⟩ := hs
    exact False.elim q
  | cont =>
    obtain ⟨_, _, _, q⟩ := hs
    exact False.elim q
theorem FunD.okF {CX : CXT} {P : Program} {w : World} {K : PySem.W.Frag} {mg : Str → Option Value} {base : Heap} {x qual : Str} {params : Arguments} {body : List Stmt} {scope : Scope} {dvs : List V} {kws : List (Str × V)} {f : Addr} {fd : FuncData} {N ps : List Str} {k : Nat} {sp : Sp} (F : FunD K x qual params body scope dvs kws f fd) (S : FnScope N ps scope) (len : ∀ vs H Q E, sp vs H Q E → vs.length = ps.length)
    (hbody : ∀ (cdv : Value) (A : Around) (outer : List Env) (s : Shared) (H : Hp) (vs : List V) (Q : VK) (E : XK), RoomF k (A.deeper (envOfC qual scope s.heap.objs.size f cdv)) → sp vs H Q E →
      ∃ t, PSs (cxOf CX P w K mg base N qual scope f cdv A outer s H E) body t ∧ t { nx := fun _ H' => Q .non H', rt := Q } (start N vs) H) : FnF P w K mg base CX (k + 1) f fd ps sp := by
  obtain ⟨oc, od, dV, kV, doc, pm, an, cdv, ct, osl, rfl, lk, hcd, _, _⟩ := F.ex
  exact fnF_of lk hcd S len fun A outer s H vs Q E hr hsp => hbody cdv A outer s H vs Q E hr hsp
/-- o.m(..) of an instance; what it lets out is told at the slots -/
def tMethF (C : Addr) (m : Str) (sp : Sp) (E : St → XK) (ta : TE) (t : TA) : TE := fun σ H Q => ta σ H fun x H1 => ∃ a dx fs, x = .ref a ∧ H1 a = some (.ins C dx fs) ∧ fs.lookup m = none ∧ t σ H1 fun vs H2 => sp (x :: vs) H2 Q (E σ)
section
variable {X : Cx} {CX : CXT} {k j : Nat} {f C : Addr} {fd : FuncData} {ps : List Str} {sp : Sp} {E : St → XK} {x m : Str} {p pos apos : Pos} {e o : Expr} {es : List Expr} {ta : TE} {t : TA}
theorem run_fnF {pins : List (Addr × Obj)} {σ : St} {H : Hp} {s : Shared} {Q : VK} {us : List Value} {vs : List V} (F : FnF X.prog X.w X.K X.mg X.base CX k f fd ps sp) (hr : RoomF k X.A) (hb : Binds X.K fd ps []) (hx : PassesAt CX X σ (E σ))
    (I : Inv X pins σ H s) (r : Vals vs us) (h : sp vs H Q (E σ)) : wpAny (model X.prog X.w) X.A (call (.ref f) us) (EP X pins σ Q) X.xe s := by
  have hl : us.length = ps.length := by rw [← r.length]; exact F.len _ _ _ _ h
  have b := hb s us I.kIn (by rw [List.append_nil]; exact hl)
  rw [List.append_nil] at b
  refine wpAny_call (codeAny_mono (F.run X.A X.stack s H ⟨us, []⟩ us vs Q (E σ) hr I.env0 b r h) fun r s' hq => ?_)
  cases r with
  | error e => exact hx pins H s e s' I hq
  | ok fl =>
    cases fl with
    | ret u => exact I.after hq
    | next => exact False.elim hq
    | brk => exact False.elim hq
    | cont => exact False.elim hq
/-- o.m(e, ..), counted by frames -/
theorem pe_methF {pl : Sem Bool} (he : PE X o ta) (c : Cls X.K C) (hm : Meth X.K C m f) (F : FnF X.prog X.w X.K X.mg X.base CX k f fd ps sp) (hr : RoomF k X.A) (hb : Binds X.K fd ps []) (hx : ∀ σ, PassesAt CX X σ (E σ)) (ha : PA X (e :: es) t)
    (hst : starEach (e :: es) X.env = (false, eval e X.env) :: starEach es X.env := by rfl) (hpl : (backTo pos (starEach es X.env)).any (·.1) = false := by rfl)
    (ht : eval (.Call (.Attribute o m apos) (e :: es) [] pos) X.env = (do
      let ov ← eval o X.env
      standAt apos.atName
      let (f, first) ← holding [ov] (getMethod ov m pl)
      callWith pos f first (backTo pos (starEach (e :: es) X.env)) (backToKw pos (keywordEach [] X.env))) := by rfl) :
    PE X (.Call (.Attribute o m apos) (e :: es) [] pos) (tMethF C m sp E ta t) := by
  refine ⟨fun pins s σ H Q I h => ?_⟩
  refine PySem.W.methodCall_KW (pl := pl) (thn (he.run pins s σ H _ I h) fun u s1 ⟨x, H1, I1, rx, a, dx, fs, ex, ea, l, q⟩ => ?_) ht
  subst ex
  obtain rfl : u = Value.ref a := rx
  refine getmeth_ok I1 ea c hm l ?_
  refine PySem.W.callWith_K (first := [.ref a]) (h₀ := X.base) I.ok.mod.kin hm.kp (thn (ha.run pos pins s1 σ H1 _ I1 q) fun us s2 ⟨vs, H2, I2, r, q2⟩ => ⟨I2.kIn, ?_⟩) hst hpl
  exact run_fnF (us := .ref a :: us) (vs := .ref a :: vs) F hr hb (hx σ) I2 (.cons rfl r) q2
/-- o.m() -/
theorem pe_methF0 {pl : Sem Bool} (he : PE X o ta) (c : Cls X.K C) (hm : Meth X.K C m f) (F : FnF X.prog X.w X.K X.mg X.base CX k f fd ps sp) (hr : RoomF k X.A) (hb : Binds X.K fd ps []) (hx : ∀ σ, PassesAt CX X σ (E σ))
    (ht : eval (.Call (.Attribute o m apos) [] [] pos) X.env = (do
      let ov ← eval o X.env
      standAt apos.atName
      let (f, first) ← holding [ov] (getMethod ov m pl)
      callWith pos f first (backTo pos (starEach [] X.env)) (backToKw pos (keywordEach [] X.env))) := by rfl) :
    PE X (.Call (.Attribute o m apos) [] [] pos) (tMethF C m sp E ta tNil) := by
  refine ⟨fun pins s σ H Q I h => ?_⟩
  refine PySem.W.methodCall_KW (pl := pl) (thn (he.run pins s σ H _ I h) fun u s1 ⟨x, H1, I1, rx, a, dx, fs, ex, ea, l, q⟩ => ?_) ht
  subst ex
  obtain rfl : u = Value.ref a := rx
  refine getmeth_ok I1 ea c hm l ?_
  exact PySem.W.callWith_K0 (first := [.ref a]) I1.kIn hm.kp (run_fnF (us := [.ref a]) (vs := [.ref a]) F hr hb (hx σ) I1 (.cons rfl .nil) q)
end
end L2
namespace Ts
open PySem L2
/-- H without a -/
def del (H : Hp) (a : Addr) : Hp := fun b => if b = a then none else H b
theorem del_same {H : Hp} {a : Addr} : del H a a = none := if_pos rfl
theorem del_ne {H : Hp} {a b : Addr} (h : b ≠ a) : del H a b = H b := if_neg h
theorem del_of {H : Hp} {a b : Addr} {o : HO} (h : del H a b = some o) : b ≠ a ∧ H b = some o := by
  by_cases c : b = a
  · rw [c, del_same] at h; cases h
  · exact ⟨c, by rw [del_ne c] at h; exact h⟩
/-- fields, one of them set -/
def putD (f : Str) (d : D) : List (Str × D) → List (Str × D)
  | [] => [(f, d)]
  | (g, x) :: r => if g = f then (g, d) :: r else (g, x) :: putD f d r
section
variable {K : PySem.W.Frag} {G : Hp}
theorem RpF.put {f : Str} {v : V} {d : D} (h : Rp K G v d) : ∀ {vs : List (Str × V)} {ds : List (Str × D)}, RpF K G vs ds → RpF K G (putF f v vs) (putD f d ds)
  | _, _, .nil => .cons h .nil
  | _, _, .cons (f := g) r t => by
    unfold putF putD
    by_cases e : g = f
    · rw [if_pos e, if_pos e]; exact .cons h t
    · rw [if_neg e, if_neg e]; exact .cons r (RpF.put h t)
theorem RpF.length : ∀ {vs : List (Str × V)} {ds : List (Str × D)}, RpF K G vs ds → vs.length = ds.length
  | _, _, .nil => rfl
  | _, _, .cons _ t => congrArg Nat.succ (RpF.length t)
end
variable [Tt]
theorem Tbd.del {H : Hp} {a : Addr} {o : HO} (h : H a = some o) (k : (∃ xs, o = .lst xs) ∨ ∃ C dx vs, o = .ins C dx vs) : Tbd H (del H a) := fun t p hp => by
  obtain ⟨ps, h1, h2, h3⟩ := t p hp
  have ne : ∀ {b : Addr} {w : HO}, H b = some w → (∀ xs, w ≠ .lst xs) → (∀ C dx vs, w ≠ .ins C dx vs) → b ≠ a := fun {b w} e q1 q2 z => by
    rw [z, h] at e
    have e := Option.some.inj e
    rcases k with ⟨xs, rfl⟩ | ⟨C, dx, vs, rfl⟩
    · exact q1 xs e.symm
    · exact q2 C dx vs e.symm
  refine ⟨ps, by rw [del_ne (ne h1 (fun _ z => nomatch z) fun _ _ _ z => nomatch z)]; exact h1, h2, fun pos cv hc => ?_⟩
  obtain ⟨c, e1, e2⟩ := h3 pos cv hc
  exact ⟨c, e1, by rw [del_ne (ne e2 (fun _ z => by unfold LamX.CodeO at z; cases z) fun _ _ _ z => by unfold LamX.CodeO at z; cases z)]; exact e2⟩
section
variable {K : PySem.W.Frag} {q : Qd} {G0 H0 G H G' H' : Hp} {σ : L2.St} {Δ : En}
theorem Exx.del {a : Addr} (e : Exx G H) (n : Nt G a) : Exx G (del H a) := fun b o h nt => by
  have : b ≠ a := fun z => by
    rw [z] at h
    obtain ⟨ps, y⟩ := n _ h
    exact nt ps y
  rw [del_ne this]
  exact e b o h nt
/-- behind a call that had the thing in the slot i -/
theorem Sta.goM (s : Sta K q G0 H0 G H σ Δ) {i : Nat} {a : Addr} {m n : Mu} {w : HO} (hi : Δ[i]? = some (Sl.mu m)) (hσ : σ[i]? = some (some (V.ref a))) (g : Gr none G (del H a) G' H') (h' : H' a = some w) (r : RpM K G' a w n) (nt' : Nt G' a) :
    Sta K q G0 H0 G' H' σ (Δ.set i (.mu n)) := by
  obtain ⟨p, o, h1, h2, h3, h4, h5, h6⟩ := s.rs.mu i m hi
  have ep : p = a := by rw [hσ] at h1; cases h1; rfl
  subst ep
  have hl : i < Δ.length := (List.getElem?_eq_some_iff.mp hi).1
  have ne0 : ∀ {b : Addr} {u : HO}, H0 b = some u → (∀ ps, u ≠ HO.tbl ps) → b ≠ p := fun {b u} e nt z => by
    rw [z] at e
    obtain ⟨ps, y⟩ := h5 _ e
    exact nt ps y
  have kp : ∀ {b : Addr} {u : HO}, b ≠ p → H b = some u → (∀ ps, u ≠ HO.tbl ps) → H' b = some u := fun {b u} ne e nt => g.keep b u (by simp) (by rw [del_ne ne]; exact e) nt
  have tk : Tbd H H' := fun t => g.tk (Tbd.del h2 h3.kind t)
  have dk : ∀ b, q = some b → DiceAt H b → DiceAt H' b := fun b c ⟨x, y, z, e⟩ => ⟨x, y, z, kp (fun z => by rw [z] at c; exact h6 c) e fun _ z => nomatch z⟩
  have unt : ∀ {b : Addr} {u : HO}, b ≠ p → Nt G b → H b = some u → (∀ ps, u ≠ HO.tbl ps) → Nt G' b := fun {b u} ne n e nt => g.unm n (by rw [del_ne ne]; exact e) nt
  refine ⟨⟨s.gr.ex.trans g.ex, fun b u e => ?_, g.sub, fun b u c e nt => kp (ne0 e nt) (s.gr.keep b u c e nt) nt, fun t => tk (s.gr.tk t), fun b c d => dk b c (s.gr.dq b c d)⟩, s.hq, g.sub, by rw [List.length_set]; exact s.rs.len, fun b c => ?_, tk s.rs.tb, fun j e he => ?_, fun j bs he => ?_, fun j k bs cs p2 h1' h2' h3' h4' => ?_, fun j he => ?_⟩
  · rcases g.nw b u e with z | z
    · exact s.gr.nw b u z
    · by_cases c : b = p
      · rw [c]; exact .inr h5
      · exact .inr (s.gr.live s.hq fun o2 e2 => z o2 (by rw [del_ne c]; exact e2))
  · obtain ⟨e1, e2⟩ := s.rs.gq b c
    obtain ⟨x, y, z, e3⟩ := id e2
    exact ⟨unt (fun z => by rw [z] at c; exact h6 c) e1 e3 (fun _ z => nomatch z), dk b c e2⟩
  · have nj : i ≠ j := fun c => by
      subst c
      rw [List.getElem?_set_self hl] at he; cases he
    rw [List.getElem?_set_ne nj] at he
    obtain ⟨v, g1, g2⟩ := s.rs.dat j e he
    exact ⟨v, g1, g2.ex g.ex⟩
  · by_cases c : i = j
    · subst c
      rw [List.getElem?_set_self hl] at he
      cases he
      exact ⟨p, w, h1, h', r, nt', h5, h6⟩
    · rw [List.getElem?_set_ne c] at he
      obtain ⟨p2, o2, g1, g2, g3, g4, g5, g6⟩ := s.rs.mu j bs he
      have ne : p2 ≠ p := fun z => c (s.rs.difm i j m bs p hi he h1 (by rw [z] at g1; exact g1))
      exact ⟨p2, o2, g1, kp ne g2 g3.nt, g3.ex g.ex, unt ne g4 g2 g3.nt, g5, g6⟩
  · have back : ∀ {l : Nat} {as : Mu}, (Δ.set i (.mu n))[l]? = some (Sl.mu as) → ∃ as', Δ[l]? = some (Sl.mu as') := fun {l as} e => by
      by_cases c : i = l
      · subst c; exact ⟨m, hi⟩
      · rw [List.getElem?_set_ne c] at e; exact ⟨as, e⟩
    obtain ⟨b1, e1⟩ := back h1'
    obtain ⟨b2, e2⟩ := back h2'
    exact s.rs.difm j k b1 b2 p2 e1 e2 h3' h4'
  · have nj : i ≠ j := fun c => by
      subst c
      rw [List.getElem?_set_self hl] at he; cases he
    rw [List.getElem?_set_ne nj] at he
    exact s.rs.dice j he
/-- .. of which nothing is told any more -/
theorem Sta.goN (s : Sta K q G0 H0 G H σ Δ) {i : Nat} {a : Addr} {m : Mu} (hi : Δ[i]? = some (Sl.mu m)) (hσ : σ[i]? = some (some (V.ref a))) (g : Gr none G (del H a) G' H') : Sta K q G0 H0 G' H' σ (Δ.set i .no) := by
  obtain ⟨p, o, h1, h2, h3, h4, h5, h6⟩ := s.rs.mu i m hi
  have ep : p = a := by rw [hσ] at h1; cases h1; rfl
  subst ep
  have hl : i < Δ.length := (List.getElem?_eq_some_iff.mp hi).1
  have ne0 : ∀ {b : Addr} {u : HO}, H0 b = some u → (∀ ps, u ≠ HO.tbl ps) → b ≠ p := fun {b u} e nt z => by
    rw [z] at e
    obtain ⟨ps, y⟩ := h5 _ e
    exact nt ps y
  have kp : ∀ {b : Addr} {u : HO}, b ≠ p → H b = some u → (∀ ps, u ≠ HO.tbl ps) → H' b = some u := fun {b u} ne e nt => g.keep b u (by simp) (by rw [del_ne ne]; exact e) nt
  have tk : Tbd H H' := fun t => g.tk (Tbd.del h2 h3.kind t)
  have dk : ∀ b, q = some b → DiceAt H b → DiceAt H' b := fun b c ⟨x, y, z, e⟩ => ⟨x, y, z, kp (fun z => by rw [z] at c; exact h6 c) e fun _ z => nomatch z⟩
  have unt : ∀ {b : Addr} {u : HO}, b ≠ p → Nt G b → H b = some u → (∀ ps, u ≠ HO.tbl ps) → Nt G' b := fun {b u} ne n e nt => g.unm n (by rw [del_ne ne]; exact e) nt
  have old : ∀ {j : Nat} {e : Sl}, (Δ.set i .no)[j]? = some e → e ≠ .no → i ≠ j ∧ Δ[j]? = some e := fun {j e} he n => by
    by_cases c : i = j
    · subst c
      rw [List.getElem?_set_self hl] at he
      exact absurd (Option.some.inj he).symm n
    · rw [List.getElem?_set_ne c] at he
      exact ⟨c, he⟩
  refine ⟨⟨s.gr.ex.trans g.ex, fun b u e => ?_, g.sub, fun b u c e nt => kp (ne0 e nt) (s.gr.keep b u c e nt) nt, fun t => tk (s.gr.tk t), fun b c d => dk b c (s.gr.dq b c d)⟩, s.hq, g.sub, by rw [List.length_set]; exact s.rs.len, fun b c => ?_, tk s.rs.tb, fun j e he => ?_, fun j bs he => ?_, fun j k bs cs p2 h1' h2' h3' h4' => ?_, fun j he => ?_⟩
  · rcases g.nw b u e with z | z
    · exact s.gr.nw b u z
    · by_cases c : b = p
      · rw [c]; exact .inr h5
      · exact .inr (s.gr.live s.hq fun o2 e2 => z o2 (by rw [del_ne c]; exact e2))
  · obtain ⟨e1, e2⟩ := s.rs.gq b c
    obtain ⟨x, y, z, e3⟩ := id e2
    exact ⟨unt (fun z => by rw [z] at c; exact h6 c) e1 e3 (fun _ z => nomatch z), dk b c e2⟩
  · obtain ⟨_, he⟩ := old he (fun z => nomatch z)
    obtain ⟨v, g1, g2⟩ := s.rs.dat j e he
    exact ⟨v, g1, g2.ex g.ex⟩
  · obtain ⟨c, he⟩ := old he (fun z => nomatch z)
    obtain ⟨p2, o2, g1, g2, g3, g4, g5, g6⟩ := s.rs.mu j bs he
    have ne : p2 ≠ p := fun z => c (s.rs.difm i j m bs p hi he h1 (by rw [z] at g1; exact g1))
    exact ⟨p2, o2, g1, kp ne g2 g3.nt, g3.ex g.ex, unt ne g4 g2 g3.nt, g5, g6⟩
  · exact s.rs.difm j k bs cs p2 (old h1' (fun z => nomatch z)).2 (old h2' (fun z => nomatch z)).2 h3' h4'
  · exact s.rs.dice j (old he (fun z => nomatch z)).2
end
/-! ### fields -/
section
variable {K : PySem.W.Frag} {E : L2.St → XK} {W : WX} {Δ : En} {te : TE} {X : Addr → Prop} {i : Nat} {a C : Addr} {fs : List (Str × D)} {f : Str} {post : Out → Prop}
theorem ev_mfld {d : D} (hi : Δ[i]? = some (Sl.ins a C fs)) (hc : Cls K C) (hn : NoAttr K C f) (hl : fs.lookup f = some d) : Ev K E (tFld K (tVar i) f) Δ (· = d) X := fun q G0 H0 G H σ Q s k kx => by
  obtain ⟨p, o, h1, h2, h3, _⟩ := s.rs.mu i _ hi
  cases h3 with
  | ins rf =>
    obtain ⟨u, hu, ru⟩ := rf.look hl
    exact ⟨_, h1, _, C, _, _, u, rfl, h2, hc, hn, hu, k u d G H s.rf ru rfl⟩
/-- x.f = e -/
theorem xs_fld {R : D → Prop} {X : Addr → Prop} (hi : Δ[i]? = some (Sl.ins a C fs)) (hc : Cls K C) (hn : NoAttr K C f) (hl : fs.length < 1000) (h : Ev K (WE W) te Δ R X) (hx : ∀ B, X B → post (.ex B Δ)) (k : ∀ d, R d → post (.nx (Δ.set i (.ins a C (putD f d fs))))) :
    Xs K W (sFld K (tVar i) te f) Δ post := fun q G0 H0 G H σ T s k1 k2 k3 k4 k5 =>
  h q G0 H0 G H σ _ s (fun v d G1 H1 g1 r1 p1 => by
    have s1 := s.go g1
    obtain ⟨p, o, h1, h2, h3, _⟩ := s1.rs.mu i _ hi
    cases h3 with
    | ins rf =>
      refine ⟨_, h1, a, C, _, _, rfl, h2, hc, hn, by rw [rf.length]; exact hl, ?_⟩
      exact k1 σ _ G1 _ g1.ex (s1.changem hi h1 (.ins (rf.put r1))) (k d p1)) fun B G' H' g x => k5 B σ Δ G' H' g.ex (s.go g) (hx B x)
theorem xs1_fld {d : D} (hi : Δ[i]? = some (Sl.ins a C fs)) (hc : Cls K C) (hn : NoAttr K C f) (hl : fs.length < 1000) (h : Ev K (WE W) te Δ (· = d) fun _ => False) (k : post (.nx (Δ.set i (.ins a C (putD f d fs))))) : Xs K W (sFld K (tVar i) te f) Δ post :=
  xs_fld hi hc hn hl h (fun _ z => z.elim) fun e z => by rw [z]; exact k
/-- x.f += e, x.f -= e -/
theorem xs1_fldaug {rd : V → V → Hp → VK → Prop} {x y z : Int} (hi : Δ[i]? = some (Sl.ins a C fs)) (hc : Cls K C) (hn : NoAttr K C f) (hl : fs.length < 1000) (hf : fs.lookup f = some (.int x)) (h : Ev K (WE W) te Δ (· = .int y) fun _ => False)
    (hr : ∀ H Q, Q (V.int z) H → rd (.int x) (.int y) H Q) (k : post (.nx (Δ.set i (.ins a C (putD f (.int z) fs))))) : Xs K W (sFldAug K (tVar i) te rd f) Δ post := fun q G0 H0 G H σ T s k1 k2 k3 k4 k5 => by
  obtain ⟨p, o, h1, h2, h3, _⟩ := s.rs.mu i _ hi
  cases h3 with
  | ins rf =>
    obtain ⟨u, hu, ru⟩ := rf.look hf
    refine ⟨_, h1, a, C, _, _, u, rfl, h2, hc, hn, hu, ?_⟩
    refine h q G0 H0 G H σ _ s (fun v d G1 H1 g1 r1 p1 => ?_) fun _ _ _ _ z => z.elim
    subst p1
    have s1 := s.go g1
    obtain ⟨p', o', h1', h2', h3', _⟩ := s1.rs.mu i _ hi
    cases h3' with
    | ins rf' =>
      rw [ru.int_inv, r1.int_inv]
      refine hr _ _ ⟨_, _, h2', by rw [rf'.length]; exact hl, ?_⟩
      exact k1 σ _ G1 _ g1.ex (s1.changem hi h1 (.ins (rf'.put (.int z)))) k
theorem r_add {x y : Int} : ∀ H Q, Q (V.int (x + y)) H → rAdd (.int x) (.int y) H Q := fun H Q h => ⟨x, y, rfl, rfl, h⟩
theorem r_sub {x y : Int} : ∀ H Q, Q (V.int (x - y)) H → rSub (.int x) (.int y) H Q := fun H Q h => ⟨x, y, rfl, rfl, h⟩
/-- x = C(..), x of one's own -/
theorem xs_makeM {tr : TA} {ds : List D} {pre : List D → Prop} {fs : List D → List (Str × D)} {E' : XK} (h : Ea K (WE W) tr Δ (· = ds) fun _ => False) (hp : pre ds) (k : ∀ a, post (.nx (Δ.set i (.ins a C (fs ds))))) :
    Xs K W (tAsg (tMake C (spNew K C pre fs) [] E' tr) (gName i)) Δ post := fun q G0 H0 G H σ T s k1 k2 k3 k4 k5 =>
  h q G0 H0 G H σ _ s (fun vs ds' G1 H1 g1 r1 p1 => by
    intro x dx hx hdx hne
    subst p1
    have s1 := s.go g1
    have nG : ∀ {b : Addr}, H1 b = none → Nt G1 b := fun {b} hb o c => Classical.byContradiction fun n => by
      rw [g1.sub b o c (fun ps z => n ⟨ps, z⟩)] at hb; cases hb
    have nop : ∀ {b c : Addr} {o : HO}, H1 c = none → G1 b = some o → (∀ ps, o ≠ HO.tbl ps) → b ≠ c := fun {b c o} hb e nt z => by
      rw [z] at e
      obtain ⟨ps, h⟩ := nG hb _ e
      exact nt ps h
    rw [List.append_nil]
    refine ⟨G1, x, dx, vs, _, rfl, upd_same, nG hx, fun b o e nt => ?_, Tbd.new (by rw [upd_ne (fun z => hne z.symm)]; exact hx) (Tbd.new hdx s1.rs.tb), r1, hp, fun G' H' dx' us e1 nw e2 kp tb nx hx' rf => ⟨rfl, ?_⟩⟩
    · rw [upd_ne (nop hx e nt), upd_ne (nop hdx e nt)]
      exact g1.sub b o e nt
    · have g : Gr none G1 H1 G' H' := by
        refine ⟨e1, fun b o e => ?_, e2, fun b o _ e nt => ?_, fun _ => tb, fun _ z => nomatch z⟩
        · rcases nw b o e with h | h
          · exact .inl h
          · by_cases c : b = x
            · rw [c]; exact .inr (.of hx)
            · refine .inr fun o' e' => h o' ?_
              rw [upd_ne c]
              by_cases c2 : b = dx
              · rw [c2, hdx] at e'; cases e'
              · rw [upd_ne c2]; exact e'
        · have c : b ≠ x := fun z => by rw [z, hx] at e; cases e
          have c2 : b ≠ dx := fun z => by rw [z, hdx] at e; cases e
          exact kp b o c (by rw [upd_ne c, upd_ne c2]; exact e) nt
      have s2 := s1.go g.any
      refine k1 _ _ G' H' (g1.ex.trans e1) (s2.ownAtm (i := i) hx' (.ins rf) nx (s1.gr.live s1.hq (.of hx)) (fun c => ?_) fun l as e z => ?_) (k x)
      · obtain ⟨j1, j2, j3, e⟩ := s1.dq x c
        rw [hx] at e; cases e
      · obtain ⟨p3, o3, a1, a2, _⟩ := s1.rs.mu l as e
        rw [a1] at z
        cases z
        rw [hx] at a2; cases a2) fun _ _ _ _ z => z.elim
end
/-! ### expressions that change what is one's own -/
def EvS (K : PySem.W.Frag) (E : L2.St → XK) (te : TE) (Δ : En) (R : D → En → Prop) (X : Addr → En → Prop) : Prop :=
  ∀ (q : Qd) (G0 H0 G H : Hp) (σ : L2.St) (Q : VK), Sta K q G0 H0 G H σ Δ →
    (∀ (v : V) (d : D) (Δ' : En) (G' H' : Hp), Exx G G' → Sta K q G0 H0 G' H' σ Δ' → Rp K G' v d → R d Δ' → Q v H') →
    (∀ (C : Addr) (Δ' : En) (G' H' : Hp), Exx G G' → Sta K q G0 H0 G' H' σ Δ' → X C Δ' → E σ (.ref C) none H') → te σ H Q
section
variable {K : PySem.W.Frag} {E : L2.St → XK} {W : WX} {Δ : En} {te : TE} {R : D → En → Prop} {X : Addr → En → Prop} {i : Nat} {post : Out → Prop}
theorem evs_of {R : D → Prop} {X : Addr → Prop} (h : Ev K E te Δ R X) : EvS K E te Δ (fun d Δ' => R d ∧ Δ' = Δ) (fun C Δ' => X C ∧ Δ' = Δ) := fun q G0 H0 G H σ Q s k kx =>
  h q G0 H0 G H σ Q s (fun v d G' H' g r p => k v d Δ G' H' g.ex (s.go g) r ⟨p, rfl⟩) fun C G' H' g x => kx C Δ G' H' g.ex (s.go g) ⟨x, rfl⟩
theorem xs_exprS (h : EvS K (WE W) te Δ R X) (hx : ∀ C Δ', X C Δ' → post (.ex C Δ')) (k : ∀ d Δ', R d Δ' → post (.nx Δ')) : Xs K W (tDrop te) Δ post := fun q G0 H0 G H σ T s k1 k2 k3 k4 k5 =>
  h q G0 H0 G H σ _ s (fun v d Δ' G' H' e s' r p => k1 σ Δ' G' H' e s' (k d Δ' p)) fun C Δ' G' H' e s' x => k5 C σ Δ' G' H' e s' (hx C Δ' x)
theorem xs_asgS (h : EvS K (WE W) te Δ R X) (hx : ∀ C Δ', X C Δ' → post (.ex C Δ')) (k : ∀ d Δ', R d Δ' → post (.nx (Δ'.set i (.dat d)))) : Xs K W (tAsg te (gName i)) Δ post := fun q G0 H0 G H σ T s k1 k2 k3 k4 k5 =>
  h q G0 H0 G H σ _ s (fun v d Δ' G' H' e s' r p => k1 _ _ G' H' e (s'.set r) (k d Δ' p)) fun C Δ' G' H' e s' x => k5 C σ Δ' G' H' e s' (hx C Δ' x)
theorem xs_retS (h : EvS K (WE W) te Δ R X) (hx : ∀ C Δ', X C Δ' → post (.ex C Δ')) (k : ∀ d Δ', R d Δ' → post (.rm d Δ')) : Xs K W (tRet te) Δ post := fun q G0 H0 G H σ T s k1 k2 k3 k4 k5 =>
  h q G0 H0 G H σ _ s (fun v d Δ' G' H' e s' r p => k2 v d G' H' s'.gr r (.inr ⟨σ, Δ', s', k d Δ' p⟩)) fun C Δ' G' H' e s' x => k5 C σ Δ' G' H' e s' (hx C Δ' x)
/-- a return that does not tell -/
theorem xs_retT (h : EvS K (WE W) te Δ R X) (hx : ∀ C Δ', X C Δ' → post (.ex C Δ')) (k : ∀ d Δ', R d Δ' → post (.rt d)) : Xs K W (tRet te) Δ post := fun q G0 H0 G H σ T s k1 k2 k3 k4 k5 =>
  h q G0 H0 G H σ _ s (fun v d Δ' G' H' e s' r p => k2 v d G' H' s'.gr r (.inl (k d Δ' p))) fun C Δ' G' H' e s' x => k5 C σ Δ' G' H' e s' (hx C Δ' x)
/-- found.append(e), e changing what is one's own -/
theorem xs_appS (hi : ∃ ds, Δ[i]? = some (Sl.own ds)) (h : EvS K (WE W) te Δ (fun d Δ' => ∃ ds, Δ'[i]? = some (Sl.own ds) ∧ ds.length < sizeLine ∧ R d Δ' ∧ post (.nx (Δ'.set i (.own (ds ++ [d]))))) X) (hx : ∀ C Δ', X C Δ' → post (.ex C Δ')) :
    Xs K W (tDrop (tBM K "list" rAppend (tVar i) (tCons te tNil))) Δ post := fun q G0 H0 G H σ T s k1 k2 k3 k4 k5 => by
  obtain ⟨ds0, hi⟩ := hi
  obtain ⟨p, vs, h1, h2, h3, h4, h5, h6⟩ := s.rs.own i ds0 hi
  refine ⟨_, h1, .inl ⟨rfl, vs, .inl (.inl h2)⟩, ?_⟩
  refine h q G0 H0 G H σ _ s (fun v d Δ' G' H' e s' r ⟨ds, hi', hl, _, hp⟩ => ?_) fun C Δ' G' H' e s' x => k5 C σ Δ' G' H' e s' (hx C Δ' x)
  obtain ⟨p', vs', g1, g2, g3, _⟩ := s'.rs.own i ds hi'
  rw [h1] at g1
  cases g1
  refine ⟨p, vs', v, rfl, rfl, g2, by rw [g3.length]; exact hl, ?_⟩
  exact k1 σ _ G' _ e (s'.change hi' h1 (g3.append (.cons r .nil))) hp
end
/-! ### the promise of a method that changes its instance -/
inductive MRes where
  | ret (d : D) (fs : List (Str × D)) | exc (B : Addr)
def spM (K : PySem.W.Frag) (C : Addr) {ι : Type} (f0 : ι → List (Str × D)) (args : ι → List D) (pre : ι → Prop) (res : ι → MRes) : Sp := fun vs H Q E => ∃ (i : ι) (G : Hp) (a dx : Addr) (us : List (Str × V)) (ws : List V), vs = .ref a :: ws ∧ H a = some (.ins C dx us) ∧ RpF K G us (f0 i) ∧ Nt G a ∧ Exx G H ∧ TbOk H ∧ RpL K G ws (args i) ∧ pre i ∧
  (∀ (v : V) (d : D) (fs' : List (Str × D)) (G' H' : Hp) (dx' : Addr) (us' : List (Str × V)), Gr none G (del H a) G' H' → H' a = some (.ins C dx' us') → RpF K G' us' fs' → Nt G' a → Rp K G' v d → res i = .ret d fs' → Q v H') ∧
  (∀ (B : Addr) (G' H' : Hp), Gr none G (del H a) G' H' → res i = .exc B → E (.ref B) none H')
section
variable {K : PySem.W.Frag} {E : L2.St → XK} {Δ : En} {C a : Addr} {i : Nat} {ι : Type} {f0 : ι → List (Str × D)} {args : ι → List D} {pre : ι → Prop} {res : ι → MRes} {m : Str} {tr : TA}
theorem evs_meth (j : ι) (hi : Δ[i]? = some (Sl.ins a C (f0 j))) (hm : (f0 j).lookup m = none) (h : Ea K E tr Δ (· = args j) fun _ => False) (hp : pre j) :
    EvS K E (L2.tMethF C m (spM K C f0 args pre res) E (tVar i) tr) Δ (fun d Δ' => ∃ fs, res j = .ret d fs ∧ Δ' = Δ.set i (.ins a C fs)) (fun B Δ' => res j = .exc B ∧ Δ' = Δ.set i .no) := fun q G0 H0 G H σ Q s k kx => by
  obtain ⟨p, o, h1, h2, h3, _⟩ := s.rs.mu i _ hi
  cases h3 with
  | ins rf =>
    refine ⟨_, h1, a, _, _, rfl, h2, rf.lookN hm, ?_⟩
    refine h q G0 H0 G H σ _ s (fun ws ds G1 H1 g1 r1 p1 => ?_) fun _ _ _ _ z => z.elim
    subst p1
    have s1 := s.go g1
    obtain ⟨p', o', h1', h2', h3', n1, _⟩ := s1.rs.mu i _ hi
    cases h3' with
    | ins rf' =>
      exact ⟨j, G1, a, _, _, ws, rfl, h2', rf', n1, s1.sub, s1.rs.tb, r1, hp, fun v d fs' G' H' dx' us' g h' r' nt' rv e => k v d _ G' H' (g1.ex.trans g.ex) (s1.goM hi h1 g h' (.ins r') nt') rv ⟨fs', e, rfl⟩,
        fun B G' H' g e => kx B _ G' H' (g1.ex.trans g.ex) (s1.goN hi h1 g) ⟨e, rfl⟩⟩
end
def argsM (N : List Str) (a C : Addr) (fs : List (Str × D)) (ds : List D) : En := Sl.ins a C fs :: (ds.map Sl.dat ++ List.replicate (N.length - ds.length - 1) Sl.no)
def fnM (a C : Addr) (r : MRes) : Out → Prop
  | .nx Δ => ∃ fs, r = .ret .non fs ∧ Δ[0]? = some (Sl.ins a C fs)
  | .rm d Δ => ∃ fs, r = .ret d fs ∧ Δ[0]? = some (Sl.ins a C fs)
  | .ex B _ => r = .exc B
  | _ => False
theorem sta_argsM {K : PySem.W.Frag} {G H : Hp} {N : List Str} {a C dx : Addr} {us : List (Str × V)} {fs : List (Str × D)} {vs : List V} {ds : List D} (ha : H a = some (.ins C dx us)) (rf : RpF K G us fs) (he : Exx G H) (n : Nt G a) (tb : TbOk H) (r : RpL K G vs ds) (hl : ds.length + 1 ≤ N.length) : Sta K none G (del H a) G H (L2.start N (.ref a :: vs)) (argsM N a C fs ds) := by
  have g0 : ∀ {i : Nat} {e : Sl}, (argsM N a C fs ds)[i]? = some e → (i = 0 ∧ e = .ins a C fs) ∨ (∃ j d, i = j + 1 ∧ ds[j]? = some d ∧ e = .dat d) ∨ e = .no := fun {i e} h => by
    cases i with
    | zero => exact .inl ⟨rfl, (Option.some.inj h).symm⟩
    | succ j =>
      have h' : (ds.map Sl.dat ++ List.replicate (N.length - ds.length - 1) Sl.no)[j]? = some e := by simpa [argsM] using h
      by_cases hi : j < ds.length
      · rw [List.getElem?_append_left (by simpa using hi), List.getElem?_map, List.getElem?_eq_getElem hi] at h'
        exact .inr (.inl ⟨j, _, rfl, List.getElem?_eq_getElem hi, (Option.some.inj h').symm⟩)
      · rw [List.getElem?_append_right (by simpa using hi), List.getElem?_replicate] at h'
        split at h'
        · exact .inr (.inr (Option.some.inj h').symm)
        · cases h'
  have st0 : (L2.start N (.ref a :: vs))[0]? = some (some (V.ref a)) := start_get rfl
  refine ⟨⟨Exx.refl G, fun _ _ e => .inl e, he, fun b o _ e _ => (del_of e).2, fun _ => tb, (fun _ z => nomatch z)⟩, (fun _ z => nomatch z), ⟨he, ?_, (fun _ z => nomatch z), tb, fun i d h => ?_, fun i m h => ?_, fun i j m1 m2 p h h' _ _ => ?_, fun i h => ?_⟩⟩
  · unfold L2.start argsM
    have := r.length
    simp only [List.length_append, List.length_map, List.length_replicate, List.length_cons]
    omega
  · rcases g0 h with ⟨_, h2⟩ | ⟨j, e, rfl, h1, h2⟩ | h1
    · cases h2
    · cases h2
      obtain ⟨v, hv, rv⟩ := r.get h1
      exact ⟨v, start_get (by simpa using hv), rv⟩
    · cases h1
  · rcases g0 h with ⟨h1, h2⟩ | ⟨j, e, rfl, h1, h2⟩ | h1
    · subst h1
      cases h2
      exact ⟨a, _, st0, ha, .ins rf, n, .of del_same, fun z => nomatch z⟩
    · cases h2
    · cases h1
  · rcases g0 h with ⟨h1, _⟩ | ⟨_, _, _, _, h2⟩ | h1
    · rcases g0 h' with ⟨h3, _⟩ | ⟨_, _, _, _, h4⟩ | h3
      · rw [h1, h3]
      · cases h4
      · cases h3
    · cases h2
    · cases h1
  · rcases g0 h with ⟨_, h2⟩ | ⟨_, _, _, _, h2⟩ | h1
    · cases h2
    · cases h2
    · cases h1
section
open PySem.Spec PyProof.Rows
variable {K : PySem.W.Frag} {P : Program} {w : World} {mg : Str → Option Value} {base : Heap} {x qual : Str} {params : Arguments} {body : List Stmt} {scope : Scope} {dvs : List V} {kws : List (Str × V)} {f C : Addr} {fd : FuncData} {N ps : List Str} {k : Nat} {ι : Type} {f0 : ι → List (Str × D)} {args : ι → List D} {pre : ι → Prop} {res : ι → MRes}
theorem fnF_M {t : WX → TS} (F : FunD K x qual params body scope dvs kws f fd) (S : FnScope N ps scope) (hp : ∀ i, (args i).length + 1 = ps.length)
    (der : ∀ (cdv : Value) (A : Around) (outer : List Env) (s : Shared) (H : Hp) (E : XK), RoomF k (A.deeper (envOfC qual scope s.heap.objs.size f cdv)) → PSs (cxOf (L2.CX P w) P w K mg base N qual scope f cdv A outer s H E) body (t (wDef E)))
    (h : ∀ (W : WX) (i : ι) (a : Addr), pre i → Xs K W (t W) (argsM N a C (f0 i) (args i)) (fnM a C (res i))) : FnF P w K mg base (L2.CX P w) (k + 1) f fd ps (spM K C f0 args pre res) := by
  have hNl : ps.length ≤ N.length := by have := congrArg List.length S.pre; rw [List.length_take] at this; omega
  refine F.okF S (fun vs H Q E hsp => ?_) fun cdv A outer s H vs Q E hr hsp => ⟨t (wDef E), der cdv A outer s H E hr, ?_⟩
  · obtain ⟨i, G, a, dx, us, ws, rfl, _, _, _, _, _, r, _⟩ := hsp
    rw [List.length_cons, r.length]; exact hp i
  · obtain ⟨i, G, a, dx, us, ws, rfl, ha, rf, n, e, tb, r, p, k1, k2⟩ := hsp
    have hl : (args i).length + 1 ≤ N.length := by rw [hp i]; exact hNl
    have fin : ∀ {v : V} {d : D} {G' H' : Hp} {σ' : L2.St} {Δ' : En}, Sta K none G (del H a) G' H' σ' Δ' → Rp K G' v d → (∃ fs, res i = .ret d fs ∧ Δ'[0]? = some (Sl.ins a C fs)) → Q v H' := fun {v d G' H' σ' Δ'} s' rv ⟨fs, hr, h0⟩ => by
      obtain ⟨p', o', _, h2, h3, n', _⟩ := s'.rs.mu 0 _ h0
      cases h3 with
      | ins rf' => exact k1 v d fs G' H' _ _ s'.gr h2 rf' n' rv hr
    refine h (wDef E) i a p none G (del H a) G H (L2.start N (.ref a :: ws)) _ (sta_argsM ha rf e n tb r hl) (fun σ' Δ' G' H' e' s' q => fin s' .non q) (fun v d G' H' g rv q => ?_) (fun _ _ _ _ _ _ z => False.elim z) (fun _ _ _ _ _ _ z => False.elim z) fun B σ' Δ' G' H' e' s' q => k2 B G' H' s'.gr q
    rcases q with z | ⟨σ', Δ', s', z⟩
    · exact False.elim z
    · exact fin s' rv z
structure MthF (P : Program) (w : World) (K : PySem.W.Frag) (mg : Str → Option Value) (base : Heap) (k : Nat) (C : Addr) (m : Str) (sp : Sp) : Prop where
  ex : ∃ (f : Addr) (fd : FuncData) (ps : List Str), Cls K C ∧ Meth K C m f ∧ FnF P w K mg base (L2.CX P w) k f fd ps sp ∧ Binds K fd ps []
end
section
open PySem.Spec PyProof.Rows
variable {X : Cx} {k j : Nat} {m : Str} {C : Addr} {sp : Sp} {E : L2.St → XK} {p pos apos : Pos} {o e : Expr} {es : List Expr} {t : TA} {ta : TE}
theorem pe_mthF {pl : Sem Bool} (c : MthF X.prog X.w X.K X.mg X.base k C m sp) (hr : RoomF j X.A) (hk : k ≤ j) (hx : ∀ σ, PassesAt (L2.CX X.prog X.w) X σ (E σ)) (ho : PE X o ta) (ha : PA X (e :: es) t)
    (hst : starEach (e :: es) X.env = (false, eval e X.env) :: starEach es X.env := by rfl) (hpl : (backTo pos (starEach es X.env)).any (·.1) = false := by rfl)
    (ht : eval (.Call (.Attribute o m apos) (e :: es) [] pos) X.env = (do
      let ov ← eval o X.env
      standAt apos.atName
      let (f, first) ← holding [ov] (getMethod ov m pl)
      callWith pos f first (backTo pos (starEach (e :: es) X.env)) (backToKw pos (keywordEach [] X.env))) := by rfl) :
    PE X (.Call (.Attribute o m apos) (e :: es) [] pos) (L2.tMethF C m sp E ta t) := by
  obtain ⟨f, fd, ps, cl, M, F, b⟩ := c.ex
  exact pe_methF ho cl M F (hr.mono hk) b hx ha hst hpl ht
theorem pe_mthF0 {pl : Sem Bool} (c : MthF X.prog X.w X.K X.mg X.base k C m sp) (hr : RoomF j X.A) (hk : k ≤ j) (hx : ∀ σ, PassesAt (L2.CX X.prog X.w) X σ (E σ)) (ho : PE X o ta)
    (ht : eval (.Call (.Attribute o m apos) [] [] pos) X.env = (do
      let ov ← eval o X.env
      standAt apos.atName
      let (f, first) ← holding [ov] (getMethod ov m pl)
      callWith pos f first (backTo pos (starEach [] X.env)) (backToKw pos (keywordEach [] X.env))) := by rfl) :
    PE X (.Call (.Attribute o m apos) [] [] pos) (L2.tMethF C m sp E ta tNil) := by
  obtain ⟨f, fd, ps, cl, M, F, b⟩ := c.ex
  exact pe_methF0 ho cl M F (hr.mono hk) b hx ht
end
end Ts


/-! is True, is False of any value; isinstance of data; {k: v, ..}[k]; f-strings of known parts. -/
namespace L2
open PySem PySem.Spec PyProof.Rows
/-- x is b, b a truth -/
def rIsV : R2 := fun x y H Q => ∃ b : Bool, y = .bl b ∧ Q (.bl (decide (x = .bl b))) H
theorem op_isV {X : Cx} : OpR X (compareOp .Is) rIsV := by
  intro pins s σ H x y v u Q I rx ry h
  obtain ⟨b, rfl, q⟩ := h
  cases (show u = Value.bool b from ry)
  have no : ∀ {w : Value}, v = w → plainIs w (.bool b) = true → w ≠ .bool b → x ≠ .bl b → wpAny (model X.prog X.w) X.A (compareOp .Is v (.bool b)) (EP X pins σ Q) X.xe s := fun {w} e h1 h2 h3 => by
    subst e
    rw [decide_eq_false h3] at q
    exact wpAny_is_other h1 h2 ⟨.bl false, H, I, rfl, q⟩
  cases x with
  | non => exact no rx rfl (fun z => nomatch z) fun z => nomatch z
  | bl a =>
    by_cases e : a = b
    · subst e
      cases (show v = Value.bool a from rx)
      exact wpAny_is_self rfl ⟨.bl true, H, I, rfl, by simpa using q⟩
    · exact no rx rfl (fun z => e (Value.bool.inj z)) fun z => e (by injection z)
  | int i => obtain ⟨t, h⟩ := (show ∃ t, v = Value.int i t from rx); exact no h rfl (fun z => nomatch z) fun z => nomatch z
  | str i => obtain ⟨t, h⟩ := (show ∃ t, v = Value.str i t from rx); exact no h rfl (fun z => nomatch z) fun z => nomatch z
  | byt i => obtain ⟨t, h⟩ := (show ∃ t, v = Value.bytes i t from rx); exact no h rfl (fun z => nomatch z) fun z => nomatch z
  | flt i => obtain ⟨t, h⟩ := (show ∃ t, v = Value.float i t from rx); exact no h rfl (fun z => nomatch z) fun z => nomatch z
  | ref a => exact no rx rfl (fun z => nomatch z) fun z => nomatch z
  | ty n => exact no rx rfl (fun z => nomatch z) fun z => nomatch z
/-- ==, != of data of any signs and any depth, one of them no deeper than 64 -/
def rEqP (K : PySem.W.Frag) : R2 := fun x y H Q => ∃ d e, Dp K H x d ∧ Dp K H y e ∧ d.plain = true ∧ e.plain = true ∧ min d.depth e.depth ≤ 64 ∧ Q (.bl (PyData.eqv d e)) H
def rNeP (K : PySem.W.Frag) : R2 := fun x y H Q => ∃ d e, Dp K H x d ∧ Dp K H y e ∧ d.plain = true ∧ e.plain = true ∧ min d.depth e.depth ≤ 64 ∧ Q (.bl (!PyData.eqv d e)) H
section
variable {X : Cx}
theorem op_eqP (hu : X.A.units + 64 < cLine) : OpR X (compareOp .Eq) (rEqP X.K) := by
  intro pins s σ H x y v u Q I rx ry h
  obtain ⟨d, e, hd, he, sd, se, hm, q⟩ := h
  obtain ⟨as, r1⟩ := Dp.reads I d x v hd rx
  obtain ⟨bs, r2⟩ := Dp.reads I e y u he ry
  exact SeqAt.eq_plain r1 r2 sd se (by omega) ⟨.bl _, H, I, rfl, q⟩
theorem op_neP (hu : X.A.units + 64 < cLine) : OpR X (compareOp .NotEq) (rNeP X.K) := by
  intro pins s σ H x y v u Q I rx ry h
  obtain ⟨d, e, hd, he, sd, se, hm, q⟩ := h
  obtain ⟨as, r1⟩ := Dp.reads I d x v hd rx
  obtain ⟨bs, r2⟩ := Dp.reads I e y u he ry
  exact SeqAt.ne_plain r1 r2 sd se (by omega) ⟨.bl _, H, I, rfl, q⟩
end
end L2
namespace Ts
open PySem L2
section
variable [Tt] {K : PySem.W.Frag} {E : L2.St → XK} {Δ : En} {te ta tb : TE} {X : Addr → Prop}
def rEqH (K : PySem.W.Frag) : R2 := fun x y H Q => rEqG K x y H Q ∨ rEqP K x y H Q
def rNeH (K : PySem.W.Frag) : R2 := fun x y H Q => rNeG K x y H Q ∨ rNeP K x y H Q
theorem op_eqH {X : Cx} (hu : X.A.units + 64 < cLine) : OpR X (compareOp .Eq) (rEqH X.K) := OpR.or (op_eqG hu) (op_eqP hu)
theorem op_neH {X : Cx} (hu : X.A.units + 64 < cLine) : OpR X (compareOp .NotEq) (rNeH X.K) := OpR.or (op_neG hu) (op_neP hu)
def D.wide (d : D) : Bool := d.pure && d.py.plain
theorem od_eqP {x y : D} (hx : x.wide = true) (hy : y.wide = true) (hm : min x.py.depth y.py.depth ≤ 64) : OpD K (rEqH K) x y (· = .bl (PyData.eqv x.py y.py)) := fun G H v w Q e r1 r2 k => by
  obtain ⟨a1, a2⟩ := Bool.and_eq_true_iff.mp hx
  obtain ⟨b1, b2⟩ := Bool.and_eq_true_iff.mp hy
  exact .inr ⟨_, _, r1.dp e a1, r2.dp e b1, a2, b2, hm, ret1 e (.bl _) k⟩
theorem od_neP {x y : D} (hx : x.wide = true) (hy : y.wide = true) (hm : min x.py.depth y.py.depth ≤ 64) : OpD K (rNeH K) x y (· = .bl (!PyData.eqv x.py y.py)) := fun G H v w Q e r1 r2 k => by
  obtain ⟨a1, a2⟩ := Bool.and_eq_true_iff.mp hx
  obtain ⟨b1, b2⟩ := Bool.and_eq_true_iff.mp hy
  exact .inr ⟨_, _, r1.dp e a1, r2.dp e b1, a2, b2, hm, ret1 e (.bl _) k⟩
theorem od_nePself {x y : D} (hx : x.wide = true) (hm : x.py.depth ≤ 64) (e : x = y) : OpD K (rNeH K) x y (· = .bl false) := by
  subst e
  have h := od_neP (K := K) hx hx (by omega)
  rw [SeqAt.eqv_refl_plain _ (Bool.and_eq_true_iff.mp hx).2] at h
  exact h
def D.isB (b : Bool) : D → Bool
  | .bl a => decide (a = b)
  | _ => false
theorem od_isV {x : D} {b : Bool} : OpD K rIsV x (.bl b) (· = .bl (x.isB b)) := fun G H v w Q e r1 r2 k => by
  rw [r2.bl_inv]
  refine ⟨b, rfl, ?_⟩
  have e2 : decide (v = V.bl b) = x.isB b := by
    cases r1 <;> simp [D.isB]
  rw [e2]
  exact ret1 e (.bl _) k
/-- the name of a datum's class -/
def D.cls : D → Option String
  | .non => some "NoneType"
  | .bl _ => some "bool"
  | .int _ => some "int"
  | .str _ => some "str"
  | .lst _ => some "list"
  | .tup _ => some "tuple"
  | .obj _ _ => none
theorem Rp.ty {G H : Hp} {v : V} {d : D} {n : String} (r : Rp K G v d) (e : Exx G H) (h : d.cls = some n) : TyX K H v (.type n) := by
  cases r with
  | non => cases h; exact .base .non
  | bl b => cases h; exact .base (.bl b)
  | int i => cases h; exact .base (.int i)
  | str x => cases h; exact .base (.str x)
  | lst g r => cases h; exact .base (.lst (e.l g))
  | tup g r =>
    cases h
    rcases g with (g | ⟨o, g⟩) | ⟨o, its, n, h1, h2, _⟩
    · exact .base (.tup (e _ _ g fun _ z => nomatch z))
    · exact .fTuple (e _ _ g fun _ z => nomatch z)
    · exact .kTuple h1 h2
  | obj g r => cases h
/-- isinstance(x, c), c a built-in class -/
theorem ev_isC {d : D} {c n : String} {b : Bool} (h : Ev K E te Δ (· = d) X) (hd : d.cls = some n) (hb : PySem.W.kitOne K (.type n) (.type c) = some b) : Ev K E (tCB (rIsi K) (tCons te (tCons (tC (.ty c)) tNil))) Δ (· = .bl b) X := fun q G0 H0 G H σ Q s k kx =>
  h q G0 H0 G H σ _ s (fun v d' G1 H1 g1 r1 p1 => by
    subst p1
    exact ⟨v, _, _, _, b, rfl, .ty c, r1.ty g1.sub hd, hb, k _ _ G1 H1 g1 (.bl _) rfl⟩) kx
/-! ### {k: v, ..}[x] -/
def putsD : List (Str × D) → List (TE × TE)
  | [] => []
  | (k, d) :: r => (tC (.str k), match d with
    | .non => tC .non
    | .bl b => tC (.bl b)
    | .int i => tC (.int i)
    | .str z => tC (.str z)
    | _ => fun _ _ _ => False) :: putsD r
def scD : D → Option V
  | .non => some .non
  | .bl b => some (.bl b)
  | .int i => some (.int i)
  | .str z => some (.str z)
  | _ => none
theorem pairs_run {σ : L2.St} : ∀ {ps : List (Str × D)} {vs : List V} {H : Hp} {Q : List (V × V) → Hp → Prop}, ps.map (fun p => scD p.2) = vs.map some → Q ((ps.map (·.1)).zipWith (fun k v => (V.str k, v)) vs) H → tPairs (putsD ps) σ H Q
  | [], vs, H, Q, h, q => by
    cases vs with
    | nil => exact q
    | cons _ _ => cases h
  | (k, d) :: r, vs, H, Q, h, q => by
    cases vs with
    | nil => cases h
    | cons v vs =>
      rw [List.map_cons, List.map_cons] at h
      injection h with h1 h2
      have rest : tPairs (putsD r) σ H fun ps H3 => Q ((V.str k, v) :: ps) H3 := pairs_run h2 q
      cases d with
      | non => cases h1; exact rest
      | bl b => cases h1; exact rest
      | int i => cases h1; exact rest
      | str z => cases h1; exact rest
      | lst _ => cases h1
      | tup _ => cases h1
      | obj _ _ => cases h1
theorem scD_rp {G : Hp} {d : D} {v : V} (h : scD d = some v) : Rp K G v d := by
  cases d with
  | non => cases h; exact .non
  | bl b => cases h; exact .bl b
  | int i => cases h; exact .int i
  | str z => cases h; exact .str z
  | lst _ => cases h
  | tup _ => cases h
  | obj _ _ => cases h
/-- a display of constants, at once asked: the value that the last pair with the key gives -/
theorem ev_dget {ps : List (Str × D)} {vs : List V} {x : Str} {v : V} {d : D} (hv : ps.map (fun p => scD p.2) = vs.map some) (hl : ps.length ≤ 15) (h : Ev K E te Δ (· = .str x) X)
    (hx : valV (mergeK [] ((ps.map (·.1)).zipWith (fun k v => ((Sum.inr k : Key), v)) vs)) (Sum.inr x : Key) = some v) (hd : scD d = some v) : Ev K E (tDGet (tDisp (putsD ps)) te) Δ (· = d) X := fun q G0 H0 G H σ Q s k kx => by
  have hlen : ps.length = vs.length := by
    have := congrArg List.length hv
    simpa using this
  intro p hp
  refine pairs_run hv ⟨upd_same, (ps.map (·.1)).zipWith (fun k v => ((Sum.inr k : Key), v)) vs, ?_, by simp; omega, ?_⟩
  · rw [List.map_zipWith]
    rfl
  · have g : Gr none G H G (upd (upd H p (.dK [])) p (.dK (mergeK [] ((ps.map (·.1)).zipWith (fun k v => ((Sum.inr k : Key), v)) vs)))) := by
      have e0 : upd (upd H p (HO.dK [])) p (.dK (mergeK [] ((ps.map (·.1)).zipWith (fun k v => ((Sum.inr k : Key), v)) vs))) = upd H p (.dK (mergeK [] ((ps.map (·.1)).zipWith (fun k v => ((Sum.inr k : Key), v)) vs))) := by
        funext b
        by_cases c : b = p
        · rw [c, upd_same, upd_same]
        · rw [upd_ne c, upd_ne c, upd_ne c]
      rw [e0]
      exact ⟨Exx.refl G, fun _ _ e => .inl e, fun a o e nt => by rw [upd_ne (ne_of_none (s.sub a o e nt) hp)]; exact s.sub a o e nt, fun a o _ e _ => by rw [upd_ne (ne_of_none e hp)]; exact e, Tbd.new hp, fun _ z => nomatch z⟩
    refine h q G0 H0 G _ σ _ (s.pure g) (fun w d' G2 H2 g2 r2 p2 => ?_) fun C G' H' g' x => kx C G' H' (s.tr g.any g') x
    subst p2
    rw [r2.str_inv]
    have hk : q ≠ some p := fun c => by
      obtain ⟨x, y, z, e⟩ := s.dq p c
      rw [hp] at e; cases e
    refine ⟨p, v, rfl, .inl ⟨_, Sum.inr x, .inl (g2.keep p _ hk upd_same fun _ z => nomatch z), rfl, hx.symm⟩, ?_⟩
    exact k v d G2 H2 (s.tr g.any g2) (scD_rp hd) rfl
/-! ### f-strings -/
theorem str_app_len (x y : Str) : (x ++ y).length = x.length + y.length := by
  show (Str.append x y).length = _
  simp [Str.append, Str.length]
/-- a part: a text as it is, an int as a text -/
inductive Fp (K : PySem.W.Frag) (E : L2.St → XK) (Δ : En) (X : Addr → Prop) : TE → Str → Prop
  | con {z : Str} : Fp K E Δ X (tC (.str z)) z
  | txt {te : TE} {z : Str} (h : Ev K E te Δ (· = .str z) X) (hz : z.length ≤ 1000000) : Fp K E Δ X (tFmt te) z
  | num {te : TE} {i : Int} (h : Ev K E te Δ (· = .int i) X) (hz : i.natAbs.log2 < 1920) : Fp K E Δ X (tFmt te) (toString i)
inductive FpL (K : PySem.W.Frag) (E : L2.St → XK) (Δ : En) (X : Addr → Prop) : List TE → List Str → Prop
  | nil : FpL K E Δ X [] []
  | cons {t : TE} {z : Str} {ts : List TE} {zs : List Str} (h : Fp K E Δ X t z) (r : FpL K E Δ X ts zs) : FpL K E Δ X (t :: ts) (z :: zs)
theorem js_run {ts : List TE} {zs : List Str} (h : FpL K E Δ X ts zs) : ∀ (acc : Str) (q : Qd) (G0 H0 G H : Hp) (σ : L2.St) (Q : Str → Hp → Prop), Sta K q G0 H0 G H σ Δ → acc.length + (zs.map (·.length)).sum ≤ 1000000 →
    (∀ G' H', Gr q G H G' H' → Q (zs.foldl (· ++ ·) acc) H') → (∀ (C : Addr) (G' H' : Hp), Gr q G H G' H' → X C → E σ (.ref C) none H') → tJs ts acc σ H Q := by
  induction h with
  | nil => intro acc q G0 H0 G H σ Q s hl k kx; exact k G H s.rf
  | @cons t z ts zs h r ih =>
    intro acc q G0 H0 G H σ Q s hl k kx
    have hz := sizeLine_eq
    rw [List.map_cons, List.sum_cons] at hl
    have ok : (acc ++ z).length ≤ sizeLine := by rw [str_app_len]; omega
    have go : ∀ {G1 H1 : Hp}, Gr q G H G1 H1 → tJs ts (acc ++ z) σ H1 Q := fun {G1 H1} g1 => ih (acc ++ z) q G0 H0 G1 H1 σ Q (s.go g1) (by rw [str_app_len]; omega) (fun G' H' g => k G' H' (s.tr g1 g)) fun C G' H' g x => kx C G' H' (s.tr g1 g) x
    cases h with
    | con => exact ⟨_, rfl, ok, go s.rf⟩
    | txt h hz' =>
      refine h q G0 H0 G H σ _ s (fun v d G1 H1 g1 r1 p1 => ?_) kx
      subst p1
      rw [r1.str_inv]
      exact .inl ⟨_, rfl, by omega, _, rfl, ok, go g1⟩
    | num h hz' =>
      refine h q G0 H0 G H σ _ s (fun v d G1 H1 g1 r1 p1 => ?_) kx
      subst p1
      rw [r1.int_inv]
      exact .inr ⟨_, rfl, hz', _, rfl, ok, go g1⟩
theorem ev_fs {ts : List TE} {zs : List Str} (h : FpL K E Δ X ts zs) (hl : (zs.map (·.length)).sum ≤ 1000000) : Ev K E (tFs ts) Δ (· = .str (zs.foldl (· ++ ·) Str.empty)) X := fun q G0 H0 G H σ Q s k kx =>
  js_run h Str.empty q G0 H0 G H σ _ s (by show 0 + _ ≤ _; omega) (fun G' H' g => k _ _ G' H' g (.str _) rfl) kx
end
end Ts


/-! What laws draw: a list's element, texts of drawn signs; maps. -/
namespace Ts
open PySem PySem.Spec PyProof.Rows L2 TL
section
variable [Tt] {K : PySem.W.Frag} {E : L2.St → XK} {Δ : En} {X : Addr → Prop} {te tf : TE}
theorem ev_c {z : Str} {cs : List Nat} (h : z = sx cs) : Ev K E (tC (.str z)) Δ (· = tD cs) X := ev_is ev_str (by rw [h])
theorem ev_pick {ds : List D} {n : Int} (h : Ev K E te Δ (· = .lst ds) X) (hr : Ev K E tf Δ (fun d => ∃ i : Int, d = .int i ∧ 0 ≤ i ∧ i < n) X) (hn : n = ds.length) : Ev K E (tOp (rIx K) te tf) Δ (fun d => d ∈ ds) X := ev_op h hr fun x y e1 ⟨i, e2, h0, h1⟩ => by
  subst e1; subst e2
  have hl : i.toNat < ds.length := by omega
  exact OpD.imp (od_ixL (atI_nn h0 (List.getElem?_eq_getElem hl))) fun d e => by rw [e]; exact List.getElem_mem hl
theorem ev_pickT {cs : List Nat} {n : Int} (h : Ev K E te Δ (· = tD cs) X) (hr : Ev K E tf Δ (fun d => ∃ i : Int, d = .int i ∧ 0 ≤ i ∧ i < n) X) (hn : n = cs.length) (hl : cs.length ≤ 1000) : Ev K E (tOp (rIx K) te tf) Δ (fun d => ∃ c, c ∈ cs ∧ d = tD [c]) X := ev_op h hr fun x y e1 ⟨i, e2, h0, h1⟩ => by
  subst e1; subst e2
  have hl : i.toNat < cs.length := by omega
  exact OpD.imp (od_at (j := i.toNat) (by omega) (by omega) (List.getElem?_eq_getElem hl)) fun d e => ⟨_, List.getElem_mem hl, e⟩
theorem join_one (cs : List Nat) : Txt.join "" (cs.map fun c => sx [c]) = sx cs := by
  show Builtin.Str.glued _ _ = _
  rw [StrLaws.glued_eq_join]
  have e : ("" : Str) = sx [] := by decide +kernel
  rw [e]
  have key : ∀ cs : List Nat, Str.join (sx []) (cs.map fun c => sx [c]) = sx cs := by
    intro cs
    induction cs with
    | nil => rfl
    | cons c r ih =>
      cases r with
      | nil => rfl
      | cons d r =>
        show sx [c] ++ sx [] ++ Str.join (sx []) ((d :: r).map fun c => sx [c]) = _
        rw [ih, sx_app, sx_app]
        rfl
  exact key cs
theorem ev_joinR {P : List Nat → Prop} (h : Ev K E te Δ (fun d => ∃ cs : List Nat, d = .lst (cs.map fun c => tD [c]) ∧ P cs) X) (hz : ∀ cs, P cs → cs.length ≤ 1000) : Ev K E (tM1 (rJoin K) (tC (.str "")) te) Δ (fun d => ∃ cs : List Nat, d = tD cs ∧ P cs) X := fun q G0 H0 G H σ Q s k kx => by
  refine ⟨⟨_, rfl⟩, h q G0 H0 G H σ _ s (fun w e G2 H2 g2 r2 p2 => ?_) kx⟩
  obtain ⟨cs, rfl, hp⟩ := p2
  obtain ⟨p, xs, rfl, hx, rl⟩ := r2.lst_inv
  have e1 : (cs.map fun c => tD [c]) = (cs.map fun c => sx [c]).map D.str := by rw [List.map_map]; rfl
  rw [e1] at rl
  rw [RpL.strs_inv rl] at hx
  have hl := hz cs hp
  have hsum : ((cs.map fun c => sx [c]).map (·.length)).sum = cs.length := by
    rw [List.map_map]
    have : (cs.map ((fun x : Str => x.length) ∘ fun c => sx [c])) = cs.map fun _ => 1 := List.map_congr_left fun c _ => by simp [sx_len]
    rw [this]
    have key : ∀ l : List Nat, (l.map fun _ => 1).sum = l.length := by
      intro l
      induction l with
      | nil => rfl
      | cons a l ih => rw [List.map_cons, List.sum_cons, ih, List.length_cons]; omega
    exact key cs
  refine ⟨_, p, cs.map fun c => sx [c], rfl, rfl, .inl (.inl (.inl (g2.sub.l hx))), ?_, k _ _ G2 H2 g2 (.str _) ⟨cs, by rw [join_one], hp⟩⟩
  have e0 : ("" : Str).length = 0 := rfl
  rw [hsum, e0]
  omega
/-- ''.join([src[_law_roll(dice, n)] for k in range(m)]) -/
theorem ev_drawn {src : List Nat} {z : Str} {n : Int} {N i : Nat} (hd : (wipeE Δ [i])[0]? = some Sl.dice) (hi0 : i ≠ 0) (hz : z = sx src) (hn : n = src.length) (hs : src.length ≤ 1000) (hs0 : 0 < src.length) (hN : N ≤ 1000) (h : Ev K E te Δ (fun d => ∃ m : Int, d = .int m ∧ 0 ≤ m ∧ m ≤ N) X) :
    Ev K E (tM1 (rJoin K) (tC (.str "")) (tLc (iRng1 (tCons te tNil)) (gName i) tYes (tOp (rIx K) (tC (.str z)) (tCallS (spRoll K) E00 (tCons (tVar 0) (tCons (tC (.int n)) tNil)))) [i])) Δ (fun d => ∃ cs : List Nat, d = tD cs ∧ (∀ c ∈ cs, c ∈ src) ∧ cs.length ≤ N) X := by
  refine ev_joinR (P := fun cs => (∀ c ∈ cs, c ∈ src) ∧ cs.length ≤ N) (ev_lc (Rw := fun items => ∃ m : Nat, m ≤ N ∧ items = rngD 0 1 m) (ew_rng1 (h.imp fun d ⟨m, e, h0, h1⟩ => ⟨m, e, by omega, by omega, m.toNat, by omega, rfl⟩)) (fun items j acc => ∃ cs : List Nat, acc = (cs.map fun c => tD [c]) ∧ (∀ c ∈ cs, c ∈ src) ∧ cs.length = j) (fun _ _ => ⟨[], rfl, (fun _ h => nomatch h), rfl⟩) (fun items j d acc ei hi ha => ?_) fun items acc ei ha => ?_) fun cs hp => by omega
  · obtain ⟨m, hm, rfl⟩ := ei
    obtain ⟨hj, rfl⟩ := rngD_of hi
    obtain ⟨cs, rfl, hc, rfl⟩ := ha
    refine ⟨[i], _, (fun _ h => h), tg_name, et_yes.imp fun b eb => ⟨fun _ => ?_, fun z => by rw [eb] at z; cases z⟩⟩
    refine (ev_pickT (cs := src) (n := n) (ev_c hz) (ev_roll (by rw [List.getElem?_set_ne hi0]; exact hd) ev_int (by omega) (by omega)) hn hs).imp fun e ⟨c, hcs, ee⟩ => ⟨szlt (by rw [List.length_map]; omega), cs ++ [c], by rw [List.map_append, ee]; rfl, fun x hx => ?_, by rw [List.length_append]; rfl⟩
    rcases List.mem_append.mp hx with z | z
    · exact hc x z
    · rw [List.mem_singleton.mp z]; exact hcs
  · obtain ⟨m, hm, rfl⟩ := ei
    obtain ⟨cs, rfl, hc, he⟩ := ha
    exact ⟨cs, rfl, hc, by rw [he, rngD_len]; exact hm⟩
/-- the list's elements of a kind -/
theorem ev_pickR {P : D → Prop} {n : Int} (h : Ev K E te Δ (fun d => ∃ ds, d = .lst ds ∧ (∀ e ∈ ds, P e) ∧ n = ds.length) X) (hr : Ev K E tf Δ (fun d => ∃ i : Int, d = .int i ∧ 0 ≤ i ∧ i < n) X) : Ev K E (tOp (rIx K) te tf) Δ P X := ev_op h hr fun x y ⟨ds, e1, hP, hn⟩ ⟨i, e2, h0, h1⟩ => by
  subst e1; subst e2
  have hl : i.toNat < ds.length := by omega
  exact OpD.imp (od_ixL (atI_nn h0 (List.getElem?_eq_getElem hl))) fun d e => by rw [e]; exact hP _ (List.getElem_mem hl)
end
section
variable [Tt] {K : PySem.W.Frag}
theorem ev_mapC {E : L2.St → XK} {Δ : En} {te : TE} {X : Addr → Prop} {wi : TI} {g : TG} {vs : List Nat} {α : Type} {xs : List α} (src f : α → D) (hw : Ew K E wi Δ (· = xs.map src) X) (hl : xs.length ≤ 1000000)
    (hs : ∀ (i : Nat) (a : α), xs[i]? = some a → ∃ js Δ2, (∀ j ∈ js, j ∈ vs) ∧ Tg K g js (wipeE Δ vs) (src a) Δ2 ∧ Ev K E00 te Δ2 (· = f a) fun _ => False) : Ev K E (tLc wi g tYes te vs) Δ (· = .lst (xs.map f)) X := by
  refine ev_lc hw (fun its i acc => acc = (xs.take i).map f) (fun its _ => rfl) (fun its i d acc e hi ea => ?_) fun its acc e ea => ?_
  · subst e
    rw [List.getElem?_map] at hi
    obtain ⟨a, ha, rfl⟩ := Option.map_eq_some_iff.mp hi
    obtain ⟨js, Δ2, h1, h2, h3⟩ := hs i a ha
    have hlt := (List.getElem?_eq_some_iff.mp ha).1
    refine ⟨js, Δ2, h1, h2, et_yes.imp fun b eb => ⟨fun _ => h3.imp fun z ez => ⟨?_, ?_⟩, fun c => by rw [eb] at c; cases c⟩⟩
    · rw [ea, List.length_map, List.length_take]
      exact szlt (by omega)
    · have et : xs.take (i + 1) = xs.take i ++ [a] := by
        rw [List.take_add_one, ha]; rfl
      rw [et, List.map_append, ea, ez]
      rfl
  · subst e
    rw [ea, List.length_map, List.take_length]
end
end Ts


/-! k07: nested rows as text, and back; the plain law. -/
namespace K07
open PySem L2 TL Ts
def intL (i : Int) : List Nat := if i < 0 then 45 :: numL i.natAbs else numL i.natAbs
theorem toS_num (n : Nat) : Str.ofString (toString ((n : Nat) : Int)) = sx (numL n) := by
  rw [← sx_of (Str.ofString (toString ((n : Nat) : Int)))]
  exact congrArg sx (tl_num n)
theorem ofS_sx (a : String) : Str.ofString a = sx (a.toList.map Char.toNat) := Str.ofString_eq_toList a
theorem ofS_app (a b : String) : Str.ofString (a ++ b) = Str.ofString a ++ Str.ofString b := by
  rw [ofS_sx, ofS_sx, ofS_sx, sx_app]
  congr 1
  simp
theorem toS_int (i : Int) : Str.ofString (toString i) = sx (intL i) := by
  unfold intL
  cases i with
  | ofNat n => rw [if_neg (by simp)]; exact toS_num n
  | negSucc n =>
    rw [if_pos (by omega)]
    have e : (Int.negSucc n).natAbs = n + 1 := rfl
    rw [e]
    show Str.ofString ("-" ++ toString (n + 1)) = _
    rw [ofS_app]
    have e2 := toS_num (n + 1)
    have e3 : Str.ofString (toString (n + 1)) = sx (numL (n + 1)) := e2
    rw [e3]
    have e4 : Str.ofString "-" = sx [45] := by decide +kernel
    rw [e4, sx_app]
    rfl
inductive Tr where
  | nul | bl (b : Bool) | num (i : Int) | txt (cs : List Nat) | tup (xs : List Tr)
mutual
def tt : Tr → List Nat
  | .nul => [110]
  | .bl b => [if b then 116 else 102]
  | .num i => 35 :: (intL i ++ [59])
  | .txt cs => numL cs.length ++ 58 :: cs
  | .tup xs => 40 :: (tts xs ++ [41])
def tts : List Tr → List Nat
  | [] => []
  | x :: r => tt x ++ tts r
end
mutual
def dep : Tr → Nat
  | .tup xs => deps xs + 1
  | .nul => 0
  | .bl _ => 0
  | .num _ => 0
  | .txt _ => 0
def deps : List Tr → Nat
  | [] => 0
  | x :: r => max (dep x) (deps r)
end
mutual
def dD : Tr → D
  | .nul => .non
  | .bl b => .bl b
  | .num i => .int i
  | .txt cs => tD cs
  | .tup xs => .tup (dDs xs)
def dDs : List Tr → List D
  | [] => []
  | x :: r => dD x :: dDs r
end
theorem dDs_map : ∀ xs : List Tr, dDs xs = xs.map dD
  | [] => rfl
  | x :: r => by rw [dDs, dDs_map r]; rfl
theorem tts_map : ∀ xs : List Tr, tts xs = (xs.map tt).flatten
  | [] => rfl
  | x :: r => by rw [tts, tts_map r]; rfl
/-! ### reading back -/
def DM : List Nat := [48, 49, 50, 51, 52, 53, 54, 55, 56, 57, 45]
theorem dm_iff (c : Nat) : c ∈ DM ↔ c = 45 ∨ (48 ≤ c ∧ c ≤ 57) := by
  constructor
  · intro h
    simp only [DM, List.mem_cons, List.not_mem_nil, or_false] at h
    omega
  · intro h
    have : c = 45 ∨ c = 48 ∨ c = 49 ∨ c = 50 ∨ c = 51 ∨ c = 52 ∨ c = 53 ∨ c = 54 ∨ c = 55 ∨ c = 56 ∨ c = 57 := by omega
    simp only [DM, List.mem_cons, List.not_mem_nil, or_false]
    omega
def dsOf (cs : List Nat) : List Nat := cs.takeWhile fun c => decide (c ∈ DM)
def valI : List Nat → Int
  | 45 :: r => -((NumText.digitsVal r : Nat) : Int)
  | ds => ((NumText.digitsVal ds : Nat) : Int)
def badD (s : Nat) (ds r : List Nat) : Prop := ds = [] ∨ ds = [45] ∨ 45 ∈ ds.drop 1 ∨ 30 < ds.length ∨ r.take 1 ≠ [s]
instance (s : Nat) (ds r : List Nat) : Decidable (badD s ds r) := inferInstanceAs (Decidable (_ ∨ _))
def dg (s : Nat) (cs : List Nat) : Option (Int × List Nat) := if badD s (dsOf cs) (cs.drop (dsOf cs).length) then none else some (valI (dsOf cs), cs.drop ((dsOf cs).length + 1))
abbrev PF := List Nat → Option (Tr × List Nat)
def itemC (g : PF) : PF
  | [] => none
  | c :: r => if c = 110 then some (.nul, r) else if c = 116 then some (.bl true, r) else if c = 102 then some (.bl false, r) else if c = 35 then (dg 59 r).map (fun p => (.num p.1, p.2)) else if c = 40 then g r
    else match dg 58 (c :: r) with
      | none => none
      | some (m, r') => if m < 0 ∨ (r'.length : Int) < m then none else some (.txt (r'.take m.toNat), r'.drop m.toNat)
def lp (g : PF) : Nat → List Nat → Option (List Tr × List Nat)
  | 0, _ => none
  | f + 1, cs => if cs.take 1 = [41] then some ([], cs.drop 1) else match g cs with
    | none => none
    | some (t, r) => (lp g f r).map fun p => (t :: p.1, p.2)
def pB (r : Option PF) : PF := match r with
  | none => fun _ => none
  | some g => fun cs => (lp g (cs.length + 1) cs).map fun p => (.tup p.1, p.2)
def pIt : Nat → PF
  | 0 => itemC (pB none)
  | r + 1 => itemC (pB (some (pIt r)))
/-- what stands behind '(' with r brackets to go -/
def pIn : Nat → PF
  | 0 => pB none
  | r + 1 => pB (some (pIt r))
theorem pIt_in (r : Nat) : pIt r = itemC (pIn r) := by cases r <;> rfl
/-! ### what a reading takes -/
theorem dsOf_len (cs : List Nat) : (dsOf cs).length ≤ cs.length := (List.takeWhile_sublist _).length_le
theorem dg_takes {s : Nat} {cs : List Nat} {m : Int} {r : List Nat} (h : dg s cs = some (m, r)) : ∃ k, 2 ≤ k ∧ k ≤ cs.length ∧ r = cs.drop k ∧ k ≤ 31 ∧ m = valI (dsOf cs) ∧ ¬ badD s (dsOf cs) (cs.drop (dsOf cs).length) := by
  unfold dg at h
  split at h
  case isTrue => cases h
  case isFalse hb =>
    injection h with h
    injection h with h1 h2
    have hl := dsOf_len cs
    refine ⟨(dsOf cs).length + 1, ?_, ?_, h2.symm, ?_, h1.symm, hb⟩
    · have : dsOf cs ≠ [] := fun z => hb (.inl z)
      have := List.length_pos_iff.mpr this
      omega
    · have : (cs.drop (dsOf cs).length).take 1 = [s] := Classical.byContradiction fun z => hb (.inr (.inr (.inr (.inr z))))
      have := congrArg List.length this
      rw [List.length_take, List.length_drop, List.length_singleton] at this
      omega
    · have : ¬ 30 < (dsOf cs).length := fun z => hb (.inr (.inr (.inr (.inl z))))
      omega
theorem dig_le : ∀ (cs : List Nat) (a : Nat), (∀ c ∈ cs, c ∈ DM) → cs.foldl (fun acc c => acc * 10 + (c - 48)) a < (a + 1) * 10 ^ cs.length
  | [], a, _ => by simp
  | c :: cs, a, h => by
    have hc := (dm_iff c).mp (h c (.head _))
    have ih := dig_le cs (a * 10 + (c - 48)) fun d hd => h d (.tail _ hd)
    rw [List.foldl_cons]
    refine Nat.lt_of_lt_of_le ih ?_
    rw [List.length_cons, Nat.pow_succ, Nat.mul_comm (10 ^ cs.length) 10, ← Nat.mul_assoc]
    exact Nat.mul_le_mul_right _ (by omega)
theorem dig_lt {cs : List Nat} (h : ∀ c ∈ cs, c ∈ DM) : NumText.digitsVal cs < 10 ^ cs.length := by
  have e := dig_le cs 0 h
  unfold NumText.digitsVal
  simpa using e
theorem dsOf_dm (cs : List Nat) : ∀ c ∈ dsOf cs, c ∈ DM := fun c hc => by
  have : ∀ (l : List Nat), ∀ c ∈ l.takeWhile (fun c => decide (c ∈ DM)), c ∈ DM := by
    intro l
    induction l with
    | nil => intro c h; cases h
    | cons x l ih =>
      intro c h
      rw [List.takeWhile_cons] at h
      split at h
      case isTrue hx =>
        rcases List.mem_cons.mp h with z | z
        · rw [z]; exact of_decide_eq_true hx
        · exact ih c z
      case isFalse => cases h
  exact this cs c hc
theorem valI_len {ds : List Nat} (h : ∀ c ∈ ds, c ∈ DM) (hl : ds.length ≤ 30) : (valI ds).natAbs < 10 ^ 30 := by
  have key : ∀ r : List Nat, (∀ c ∈ r, c ∈ DM) → r.length ≤ 30 → NumText.digitsVal r < 10 ^ 30 := fun r hr hl => Nat.lt_of_lt_of_le (dig_lt hr) (Nat.pow_le_pow_right (by decide) hl)
  unfold valI
  split
  · rename_i r
    have := key r (fun c hc => h c (.tail _ hc)) (by simp only [List.length_cons] at hl; omega)
    omega
  · have := key ds h hl
    omega
theorem intL_len {i : Int} (h : i.natAbs < 10 ^ 30) : (intL i).length ≤ 31 := by
  have := numL_len (n := i.natAbs) (k := 30) (by decide) h
  unfold intL
  split
  · simp only [List.length_cons]; omega
  · omega
mutual
/-- numbers of at most 30 digits, texts of at most a million signs -/
def Tok : Tr → Prop
  | .tup xs => Toks xs
  | .num i => i.natAbs < 10 ^ 30
  | .txt cs => cs.length ≤ 1000000
  | .nul => True
  | .bl _ => True
def Toks : List Tr → Prop
  | [] => True
  | x :: r => Tok x ∧ Toks r
end
/-- g takes k signs of cs, of which t is told by at most 40 times as many -/
def Takes (n : Nat) (g : PF) : Prop := ∀ cs t r, cs.length ≤ 1000000 → g cs = some (t, r) → ∃ k, 1 ≤ k ∧ k ≤ cs.length ∧ r = cs.drop k ∧ (tt t).length ≤ 40 * k ∧ dep t ≤ n ∧ Tok t
theorem numL_le {n : Nat} (h : n ≤ 1000000) : (numL n).length ≤ 7 := numL_len (by decide) (by omega)
theorem item_takes {n : Nat} {g : PF} (hg : ∀ cs t r, cs.length ≤ 1000000 → g cs = some (t, r) → ∃ k, k ≤ cs.length ∧ r = cs.drop k ∧ (tt t).length ≤ 40 * (k + 1) ∧ dep t ≤ n ∧ Tok t) : Takes n (itemC g) := by
  intro cs t r hl h
  cases cs with
  | nil => cases h
  | cons c q =>
    rw [List.length_cons] at hl
    rw [itemC] at h
    split at h
    · cases h; exact ⟨1, by decide, by simp, rfl, (by show 1 ≤ 40; decide), (by show 0 ≤ n; omega), trivial⟩
    split at h
    · cases h; exact ⟨1, by decide, by simp, rfl, (by show 1 ≤ 40; decide), (by show 0 ≤ n; omega), trivial⟩
    split at h
    · cases h; exact ⟨1, by decide, by simp, rfl, (by show 1 ≤ 40; decide), (by show 0 ≤ n; omega), trivial⟩
    split at h
    · obtain ⟨⟨m, r'⟩, h1, h2⟩ := Option.map_eq_some_iff.mp h
      cases h2
      obtain ⟨k, k1, k2, k3, k4, k5, hb⟩ := dg_takes h1
      have hd : (dsOf q).length ≤ 30 := by
        have : ¬ 30 < (dsOf q).length := fun z => hb (.inr (.inr (.inr (.inl z))))
        omega
      have hv := valI_len (dsOf_dm q) hd
      rw [← k5] at hv
      have hi := intL_len hv
      refine ⟨k + 1, by omega, by simp only [List.length_cons]; omega, by rw [k3]; rfl, ?_, (by show 0 ≤ n; omega), hv⟩
      show (intL m ++ [59]).length + 1 ≤ _
      rw [List.length_append, List.length_singleton]
      omega
    split at h
    · obtain ⟨k, k2, k3, k4, k5, k6⟩ := hg q t r (by omega) h
      exact ⟨k + 1, by omega, by simp only [List.length_cons]; omega, by rw [k3]; rfl, by omega, k5, k6⟩
    · cases hd : dg 58 (c :: q) with
      | none => rw [hd] at h; cases h
      | some p =>
        obtain ⟨m, r'⟩ := p
        rw [hd] at h
        simp only at h
        split at h
        · cases h
        · rename_i hm
          cases h
          obtain ⟨k, k1, k2, k3, k4, _, _⟩ := dg_takes hd
          have hr' : r'.length = (c :: q).length - k := by rw [k3, List.length_drop]
          rw [List.length_cons] at hr' k2
          have hml : m.toNat ≤ r'.length := by omega
          have htl : (r'.take m.toNat).length = m.toNat := by rw [List.length_take]; omega
          refine ⟨k + m.toNat, by omega, by rw [List.length_cons]; omega, by rw [k3, List.drop_drop], ?_, (by show 0 ≤ n; omega), ?_⟩
          · show (numL (r'.take m.toNat).length ++ 58 :: r'.take m.toNat).length ≤ _
            rw [List.length_append, List.length_cons, htl]
            have := numL_le (n := m.toNat) (by omega)
            omega
          · show (r'.take m.toNat).length ≤ 1000000
            omega
theorem lp_takes {n : Nat} {g : PF} (hg : Takes n g) : ∀ (f : Nat) (cs : List Nat) (xs : List Tr) (r : List Nat), cs.length ≤ 1000000 → lp g f cs = some (xs, r) → ∃ k, 1 ≤ k ∧ k ≤ cs.length ∧ r = cs.drop k ∧ (tts xs).length + 1 ≤ 40 * k ∧ deps xs ≤ n ∧ Toks xs
  | 0, _, _, _, _, h => nomatch h
  | f + 1, cs, xs, r, hl, h => by
    rw [lp] at h
    split at h
    case isTrue e =>
      cases h
      have := congrArg List.length e
      rw [List.length_take, List.length_singleton] at this
      exact ⟨1, by decide, by omega, rfl, (by show 0 + 1 ≤ 40; decide), Nat.zero_le _, trivial⟩
    case isFalse =>
      cases hi : g cs with
      | none => rw [hi] at h; cases h
      | some p =>
        obtain ⟨t, r1⟩ := p
        rw [hi] at h
        obtain ⟨⟨ys, r2⟩, h1, h2⟩ := Option.map_eq_some_iff.mp h
        cases h2
        obtain ⟨k, k1, k2, k3, k4, k5, k6⟩ := hg cs t r1 hl hi
        obtain ⟨j, j1, j2, j3, j4, j5, j6⟩ := lp_takes hg f r1 ys _ (by rw [k3, List.length_drop]; omega) h1
        rw [k3, List.length_drop] at j2
        refine ⟨k + j, by omega, by omega, by rw [j3, k3, List.drop_drop], ?_, ?_, k6, j6⟩
        · show (tt t ++ tts ys).length + 1 ≤ _
          rw [List.length_append]
          omega
        · show max (dep t) (deps ys) ≤ n
          omega
theorem pIn_takes (n : Nat) (ih : ∀ m, m < n → Takes m (pIt m)) : ∀ cs t r, cs.length ≤ 1000000 → pIn n cs = some (t, r) → ∃ k, k ≤ cs.length ∧ r = cs.drop k ∧ (tt t).length ≤ 40 * (k + 1) ∧ dep t ≤ n ∧ Tok t := by
  intro cs t r hl h
  cases n with
  | zero => cases h
  | succ n =>
    obtain ⟨⟨xs, r'⟩, h1, h2⟩ := Option.map_eq_some_iff.mp (show (lp (pIt n) (cs.length + 1) cs).map _ = _ from h)
    cases h2
    obtain ⟨k, k1, k2, k3, k4, k5, k6⟩ := lp_takes (ih n (Nat.lt_succ_self _)) _ _ _ _ hl h1
    refine ⟨k, k2, k3, ?_, (by show deps xs + 1 ≤ n + 1; omega), k6⟩
    show (tts xs ++ [41]).length + 1 ≤ _
    rw [List.length_append, List.length_singleton]
    omega
theorem pIt_takes : ∀ n, Takes n (pIt n) := by
  intro n
  induction n using Nat.strongRecOn with
  | ind n ih =>
    rw [pIt_in]
    exact item_takes (pIn_takes n ih)
/-! ### a tree's text reads as the tree -/
theorem takeWhile_dm {ds r : List Nat} (h : ∀ c ∈ ds, c ∈ DM) (hr : ∀ c, r.head? = some c → c ∉ DM) : dsOf (ds ++ r) = ds := by
  unfold dsOf
  rw [List.takeWhile_append_of_pos (by intro c hc; exact decide_eq_true (h c hc))]
  have : r.takeWhile (fun c => decide (c ∈ DM)) = [] := by
    cases r with
    | nil => rfl
    | cons c r => rw [List.takeWhile_cons, if_neg (by simpa using hr c rfl)]
  rw [this, List.append_nil]
theorem numL_dm (n : Nat) : ∀ c ∈ numL n, c ∈ DM ∧ c ≠ 45 := fun c hc => by
  have := numL_digits n c hc
  exact ⟨(dm_iff c).mpr (.inr this), by omega⟩
theorem intL_dm (i : Int) : ∀ c ∈ intL i, c ∈ DM := fun c hc => by
  unfold intL at hc
  split at hc
  · rcases List.mem_cons.mp hc with z | z
    · rw [z]; decide
    · exact (numL_dm _ c z).1
  · exact (numL_dm _ c hc).1
theorem valI_num (n : Nat) : valI (numL n) = (n : Int) := by
  have hv := numL_val n
  have hd := numL_dm n
  unfold valI
  split
  · rename_i r e
    exact absurd rfl (hd 45 (by rw [e]; exact .head _)).2
  · rw [hv]
theorem valI_int (i : Int) : valI (intL i) = i := by
  unfold intL
  split
  · show -((NumText.digitsVal (numL i.natAbs) : Nat) : Int) = i
    rw [numL_val]
    omega
  · rw [valI_num]
    omega
theorem dg_of {ds rest : List Nat} {s : Nat} (h : ∀ c ∈ ds, c ∈ DM) (hs : s ∉ DM) (h0 : ds ≠ []) (h1 : ds ≠ [45]) (h2 : 45 ∉ ds.drop 1) (h3 : ds.length ≤ 30) : dg s (ds ++ s :: rest) = some (valI ds, rest) := by
  have e : dsOf (ds ++ s :: rest) = ds := takeWhile_dm h fun c hc => by cases hc; exact hs
  have e2 : (ds ++ s :: rest).drop (ds.length + 1) = rest := by rw [← List.drop_drop, List.drop_left]; rfl
  unfold dg
  rw [e, e2, List.drop_left, if_neg]
  · rintro (z | z | z | z | z)
    · exact h0 z
    · exact h1 z
    · exact h2 z
    · omega
    · exact z rfl
theorem intL_ok (i : Int) : intL i ≠ [] ∧ intL i ≠ [45] ∧ 45 ∉ (intL i).drop 1 := by
  have hn := numL_ne i.natAbs
  have hd := numL_dm i.natAbs
  unfold intL
  split
  · refine ⟨fun z => (nomatch z), fun z => ?_, fun z => ?_⟩
    · injection z with _ z; exact hn z
    · exact (hd 45 z).2 rfl
  · refine ⟨hn, fun z => ?_, fun z => ?_⟩
    · exact (hd 45 (by rw [z]; exact .head _)).2 rfl
    · exact (hd 45 (List.mem_of_mem_drop z)).2 rfl
theorem tt_head (t : Tr) : ∃ c r, tt t = c :: r ∧ c ≠ 41 := by
  cases t with
  | nul => exact ⟨_, _, rfl, by decide⟩
  | bl b => cases b <;> exact ⟨_, _, rfl, by decide⟩
  | num i => exact ⟨_, _, rfl, by decide⟩
  | tup xs => exact ⟨_, _, rfl, by decide⟩
  | txt cs =>
    cases h : numL cs.length with
    | nil => exact absurd h (numL_ne _)
    | cons c r =>
      refine ⟨c, r ++ 58 :: cs, by show numL cs.length ++ 58 :: cs = _; rw [h]; rfl, ?_⟩
      have := numL_digits cs.length c (by rw [h]; exact .head _)
      omega
theorem tts_len : ∀ xs : List Tr, xs.length ≤ (tts xs).length
  | [] => Nat.le_refl _
  | x :: r => by
    obtain ⟨c, q, h, _⟩ := tt_head x
    have := tts_len r
    show r.length + 1 ≤ (tt x ++ tts r).length
    rw [List.length_append, h, List.length_cons]
    omega
/-- numbers of at most 29 digits -/
abbrev Small : Tr → Prop := fun t => True
mutual
def Sm : Tr → Prop
  | .tup xs => Sms xs
  | .num i => i.natAbs < 10 ^ 29
  | .txt cs => cs.length ≤ 1000000
  | .nul => True
  | .bl _ => True
def Sms : List Tr → Prop
  | [] => True
  | x :: r => Sm x ∧ Sms r
end
mutual
theorem pIt_tt : ∀ (t : Tr) (n : Nat) (rest : List Nat), Sm t → dep t ≤ n → pIt n (tt t ++ rest) = some (t, rest)
  | .nul, n, rest, _, _ => by rw [pIt_in]; rfl
  | .bl b, n, rest, _, _ => by rw [pIt_in]; cases b <;> rfl
  | .num i, n, rest, h, _ => by
    have h : i.natAbs < 10 ^ 29 := h
    have hl : (intL i).length ≤ 30 := by
      have := numL_len (n := i.natAbs) (k := 29) (by decide) h
      unfold intL
      split
      · simp only [List.length_cons]; omega
      · omega
    obtain ⟨h0, h1, h2⟩ := intL_ok i
    rw [pIt_in]
    show itemC (pIn n) (35 :: ((intL i ++ [59]) ++ rest)) = _
    rw [List.append_assoc]
    show (dg 59 (intL i ++ 59 :: rest)).map (fun p => (Tr.num p.1, p.2)) = _
    rw [dg_of (intL_dm i) (by decide) h0 h1 h2 hl, valI_int]
    rfl
  | .txt cs, n, rest, h, _ => by
    have h : cs.length ≤ 1000000 := h
    have hl := numL_le h
    have hd := numL_dm cs.length
    rw [pIt_in]
    show itemC (pIn n) ((numL cs.length ++ 58 :: cs) ++ rest) = _
    rw [List.append_assoc]
    have hg : dg 58 (numL cs.length ++ (58 :: cs ++ rest)) = some ((cs.length : Int), cs ++ rest) := by
      have := dg_of (ds := numL cs.length) (rest := cs ++ rest) (s := 58) (fun c hc => (hd c hc).1) (by decide) (numL_ne _) (fun z => (hd 45 (by rw [z]; exact .head _)).2 rfl) (fun z => (hd 45 (List.mem_of_mem_drop z)).2 rfl) (by omega)
      rw [valI_num] at this
      exact this
    cases hn : numL cs.length with
    | nil => exact absurd hn (numL_ne _)
    | cons c r =>
      have hc := numL_digits cs.length c (by rw [hn]; exact .head _)
      rw [hn] at hg
      show itemC (pIn n) (c :: (r ++ (58 :: cs ++ rest))) = _
      rw [itemC, if_neg (by omega), if_neg (by omega), if_neg (by omega), if_neg (by omega), if_neg (by omega)]
      have hg : dg 58 (c :: (r ++ (58 :: cs ++ rest))) = some ((cs.length : Int), cs ++ rest) := hg
      rw [hg]
      simp only
      rw [if_neg (by rw [List.length_append]; omega), Int.toNat_natCast, List.take_left, List.drop_left]
  | .tup xs, 0, rest, _, hd => by
    have : deps xs + 1 ≤ 0 := hd
    omega
  | .tup xs, n + 1, rest, h, hd => by
    have hd : deps xs ≤ n := by
      have : deps xs + 1 ≤ n + 1 := hd
      omega
    rw [pIt_in]
    show itemC (pIn (n + 1)) (40 :: ((tts xs ++ [41]) ++ rest)) = _
    rw [List.append_assoc]
    show (lp (pIt n) ((tts xs ++ ([41] ++ rest)).length + 1) (tts xs ++ ([41] ++ rest))).map (fun p => (Tr.tup p.1, p.2)) = _
    have hl := tts_len xs
    rw [lp_tts xs n rest _ h hd (by rw [List.length_append]; omega)]
    rfl
theorem lp_tts : ∀ (xs : List Tr) (n : Nat) (rest : List Nat) (f : Nat), Sms xs → deps xs ≤ n → xs.length < f → lp (pIt n) f (tts xs ++ ([41] ++ rest)) = some (xs, rest)
  | [], n, rest, f + 1, _, _, _ => rfl
  | x :: r, n, rest, f + 1, h, hd, hf => by
    obtain ⟨h1, h2⟩ := h
    have hd : max (dep x) (deps r) ≤ n := hd
    obtain ⟨c, q, hc, hne⟩ := tt_head x
    have e : tts (x :: r) ++ ([41] ++ rest) = tt x ++ (tts r ++ ([41] ++ rest)) := by rw [tts, List.append_assoc]
    rw [e, lp, if_neg, pIt_tt x n _ h1 (by omega)]
    · simp only
      rw [lp_tts r n rest f h2 (by omega) (by simp only [List.length_cons] at hf; omega)]
      rfl
    · rw [hc]
      intro z
      injection z with z
      exact hne z
end
/-- the whole text -/
def whole (cs : List Nat) : Option Tr := match pIt 200 cs with
  | none => none
  | some (t, r) => if r ≠ [] ∨ tt t ≠ cs then none else some t
theorem whole_tt {t : Tr} (h : Sm t) (hd : dep t ≤ 200) : whole (tt t) = some t := by
  have e := pIt_tt t 200 [] h hd
  rw [List.append_nil] at e
  unfold whole
  rw [e]
  simp
theorem whole_of {cs : List Nat} {t : Tr} (h : whole cs = some t) : tt t = cs := by
  unfold whole at h
  split at h
  · cases h
  · split at h
    · cases h
    · rename_i hb
      cases h
      exact Classical.byContradiction fun z => hb (.inr z)
/-! ### nothing but brackets -/
def nest : Nat → Tr
  | 0 => .tup []
  | n + 1 => .tup [nest n]
theorem nest_dep : ∀ n, dep (nest n) = n + 1
  | 0 => rfl
  | n + 1 => by
    show max (dep (nest n)) 0 + 1 = _
    rw [nest_dep n]
    omega
theorem nest_sm : ∀ n, Sm (nest n)
  | 0 => trivial
  | n + 1 => ⟨nest_sm n, trivial⟩
theorem nest_tt : ∀ n, tt (nest n) = List.replicate (n + 1) 40 ++ List.replicate (n + 1) 41
  | 0 => rfl
  | n + 1 => by
    show 40 :: ((tt (nest n) ++ []) ++ [41]) = _
    rw [List.append_nil, nest_tt n, List.append_assoc]
    show 40 :: (List.replicate (n + 1) 40 ++ (List.replicate (n + 1) 41 ++ [41])) = _
    rw [← List.replicate_succ' (n := n + 1)]
    rfl
theorem deep_none : ∀ (n m : Nat) (r : List Nat), n < m → pIt n (List.replicate m 40 ++ r) = none
  | 0, m + 1, r, _ => rfl
  | n + 1, m + 1, r, h => by
    have ih := deep_none n m r (by omega)
    rw [pIt_in]
    show (lp (pIt n) ((List.replicate m 40 ++ r).length + 1) (List.replicate m 40 ++ r)).map _ = none
    obtain ⟨m, rfl⟩ : ∃ k, m = k + 1 := ⟨m - 1, by omega⟩
    rw [lp, if_neg, ih]
    · rfl
    · show ¬ ((40 :: (List.replicate m 40 ++ r)).take 1 = [41])
      intro z
      injection z with z
      exact absurd z (by decide)
theorem brackets (m : Nat) : whole (List.replicate m 40 ++ List.replicate m 41) = if m = 0 ∨ 200 < m then none else some (nest (m - 1)) := by
  cases m with
  | zero => rfl
  | succ m =>
    by_cases h : 200 < m + 1
    · rw [if_pos (.inr h)]
      unfold whole
      rw [deep_none 200 (m + 1) _ h]
    · rw [if_neg (by omega), Nat.add_sub_cancel, ← nest_tt, whole_tt (nest_sm m) (by rw [nest_dep]; omega)]
end K07


/-! k07_nested_rows_as_text: the readings of the defs and their derivations. Printed by gen.py. -/
namespace K07
open PySem PySem.Spec PyProof.Rows L2 Ts

def top (i : Nat) : Stmt := PySem.Challenge.pw_tablestack_k07_nested_rows_as_text.main.body.getD i (.Pass ⟨0, 0, 0, 0⟩)

def inClass (s : Stmt) (i : Nat) : Stmt := match s with
  | .ClassDef _ _ _ body _ _ _ _ _ _ _ => body.getD i (.Pass ⟨0, 0, 0, 0⟩)
  | _ => .Pass ⟨0, 0, 0, 0⟩

/-- what the module says -/
structure Txt (K : PySem.W.Frag) (mg : Str → Option Value) : Prop where
  x_RecordFault : PySem.W.excIn K (He.ga K "RecordFault") He.veBase "ValueError.__new__" = true
  g_RecordFault : mg "RecordFault" = some (.ref (He.ga K "RecordFault"))
  k_RecordFault : PySem.W.keepIn K (.ref (He.ga K "RecordFault")) = true
  b_RecordFault : PySem.W.subIn K (.ref (He.ga K "RecordFault")) (.type "BaseException") = some true
  t_RecordFault : PySem.W.typeIn K (.ref (He.ga K "RecordFault")) = some (.type "type")
  n_abs : mg "abs" = none
  n_int : mg "int" = none
  n_isinstance : mg "isinstance" = none
  n_len : mg "len" = none
  n_range : mg "range" = none
  n_str : mg "str" = none
  n_tuple : mg "tuple" = none
  c_CODE_DIGITS : ∃ t, mg "CODE_DIGITS" = some (.str "0123456789" t)
  c_MOST_OPEN_ROWS : ∃ t, mg "MOST_OPEN_ROWS" = some (.int 200 t)

section
variable [Tt] {P : Program} {w : World} {K : PySem.W.Frag} {mg : Str → Option Value} {base : Heap}

abbrev N__law_told : List Str := ["what"]
abbrev s__law_told : Stmt := (top 14)
theorem sc__law_told : FnScope N__law_told ["what"] (defScope s__law_told) := ⟨rfl, rfl, rfl, by decide +kernel, rfl, by decide +kernel, by decide +kernel⟩

/-! tree_text: level 1 -/
abbrev N_tree_text : List Str := ["tree", "part"]
def t_tree_text (K : PySem.W.Frag) (W : WX) (sp_tree_text : Sp) : TS :=
  (tSeq (tIfS (tTest (tOp rIsN (tVar 0) (tC .non))) (tRet (tC (.str "n"))) tNext)
  (tSeq (tIfS (tTest (tOp rIsV (tVar 0) (tC (.bl true)))) (tRet (tC (.str "t"))) tNext)
  (tSeq (tIfS (tTest (tOp rIsV (tVar 0) (tC (.bl false)))) (tRet (tC (.str "f"))) tNext)
  (tSeq (tIfS (tB (tCB (rIsi K) (tCons (tVar 0) (tCons (tC (.ty "str")) tNil)))) (tRet (tFs [(tFmt (tCB (rLenC K) (tCons (tVar 0) tNil))), (tC (.str ":")), (tFmt (tVar 0))])) tNext)
  (tSeq (tIfS (tB (tCB (rIsi K) (tCons (tVar 0) (tCons (tC (.ty "tuple")) tNil)))) (tRet (tOp (rAddG K) (tOp (rAddG K) (tC (.str "(")) (tM1 (rJoin K) (tC (.str "")) (tLc (iSeq K (tVar 0)) (gName 1) tYes (tCallS sp_tree_text E00 (tCons (tVar 1) tNil)) [1]))) (tC (.str ")")))) tNext)
  (tRet (tFs [(tC (.str "#")), (tFmt (tVar 0)), (tC (.str ";"))])))))))
abbrev s_tree_text : Stmt := (top 6)
theorem sc_tree_text : FnScope N_tree_text ["tree"] (defScope s_tree_text) := ⟨rfl, rfl, rfl, by decide +kernel, rfl, by decide +kernel, by decide +kernel⟩
theorem der_tree_text {sp_tree_text : Sp} {kk : Nat} (T : Txt K mg) {k_tree_text : Nat} (c_tree_text : Cal P w K mg base k_tree_text "tree_text" sp_tree_text) (h_tree_text : k_tree_text ≤ kk) {f : Addr} {cdv : Value} {A : Around} {outer : List Env} {s : Shared} {H : Hp} {E : XK} (hr : Room kk (A.deeper (envOfC "tree_text" (defScope s_tree_text) s.heap.objs.size f cdv))) :
    PSs (cxOf (L2.CX P w) P w K mg base N_tree_text "tree_text" (defScope s_tree_text) f cdv A outer s H E) (defBody s_tree_text) (t_tree_text K (wDef E) sp_tree_text) :=
  
  (pss_cons (ps_if (pt_cmpR op_isNG (pv 0) pe_non (nomark _)) (pss_one (ps_ret pe_str)) pss_nil)
  (pss_cons (ps_if (pt_cmpR op_isV (pv 0) pe_bl (nomark _)) (pss_one (ps_ret pe_str)) pss_nil)
  (pss_cons (ps_if (pt_cmpR op_isV (pv 0) pe_bl (nomark _)) (pss_one (ps_ret pe_str)) pss_nil)
  (pss_cons (ps_if (pt_val (pe_callB call_isi rfl T.n_isinstance PyProof.Rows.boot_isinstance (pa_cons (pv 0) (pa_cons (pe_bltn rfl T.n_str PyProof.Rows.boot_str rfl) pa_nil)))) (pss_one (ps_ret (pe_joined (.cons (pe_fmt (pe_callB call_lenG rfl T.n_len boot_len (pa_cons (pv 0) pa_nil))) (.cons pe_str (.cons (pe_fmt (pv 0)) .nil)))))) pss_nil)
  (pss_cons (ps_if (pt_val (pe_callB call_isi rfl T.n_isinstance PyProof.Rows.boot_isinstance (pa_cons (pv 0) (pa_cons (pe_bltn rfl T.n_tuple PyProof.Rows.boot_tuple rfl) pa_nil)))) (pss_one (ps_ret (pe_op op_addG (pe_op op_addG pe_str (pe_joinT pe_str (pe_lc (own := [("part", 1)]) (g := (gName 1)) rfl sc_tree_text.nd (pi_seq (pv 0)) (blkOk_by (N := N_tree_text) (sc := defScope s_tree_text) (own := [("part", 1)]) (by decide +kernel)) (fun _ _ _ _ _ => (pg_name (i := 1) sc_tree_text.nd rfl (by first | exact Or.inl rfl | exact Or.inr rfl))) (fun _ _ _ _ _ => pts_nil) (fun _ _ _ _ _ => (pe_cal c_tree_text hr (by omega) rfl (fun σ => passE) (pa_cons (pv 1) pa_nil)))))) pe_str))) pss_nil)
  (pss_one (ps_ret (pe_joined (.cons pe_str (.cons (pe_fmt (pv 0)) (.cons pe_str .nil)))))))))))

/-! TreeReader.__init__: level 1 -/
abbrev N_TreeReader___init__ : List Str := ["self", "text"]
def t_TreeReader___init__ (K : PySem.W.Frag) (W : WX) : TS :=
  (tSeq (sFld K (tVar 0) (tVar 1) "text")
  (tSeq (sFld K (tVar 0) (tC (.int 0)) "place")
  (sFld K (tVar 0) (tC (.int 0)) "nesting")))
abbrev s_TreeReader___init__ : Stmt := (inClass (top 7) 0)
theorem sc_TreeReader___init__ : FnScope N_TreeReader___init__ ["self", "text"] (defScope s_TreeReader___init__) := ⟨rfl, rfl, rfl, by decide +kernel, rfl, by decide +kernel, by decide +kernel⟩
theorem der_TreeReader___init__ {kk : Nat} (T : Txt K mg) {f : Addr} {cdv : Value} {A : Around} {outer : List Env} {s : Shared} {H : Hp} {E : XK} (hr : Room kk (A.deeper (envOfC "TreeReader.__init__" (defScope s_TreeReader___init__) s.heap.objs.size f cdv))) :
    PSs (cxOf (L2.CX P w) P w K mg base N_TreeReader___init__ "TreeReader.__init__" (defScope s_TreeReader___init__) f cdv A outer s H E) (defBody s_TreeReader___init__) (t_TreeReader___init__ K (wDef E)) :=
  
  (pss_cons (ps_fld (pv 0) (pv 1) rfl)
  (pss_cons (ps_fld (pv 0) pe_int rfl)
  (pss_one (ps_fld (pv 0) pe_int rfl))))

/-! TreeReader.digits_to: level 1 -/
abbrev N_TreeReader_digits_to : List Str := ["self", "sign", "end", "digits"]
def t_TreeReader_digits_to (K : PySem.W.Frag) (W : WX) : TS :=
  (tSeq (tAsg (tFld K (tVar 0) "place") (gName 2))
  (tSeq (tWhile (tAnd (tTest (tOp (rLtG K) (tVar 2) (tCB (rLenC K) (tCons (tFld K (tVar 0) "text") tNil)))) (tTest (tOp (rInH K false) (tOp (rIx K) (tFld K (tVar 0) "text") (tVar 2)) (tOp (rAddG K) (tC (.str "0123456789")) (tC (.str "-")))))) (tAug 2 (tC (.int 1)) (rIAddA K)))
  (tSeq (tAsg (tSl (rSlG K) (tFld K (tVar 0) "text") (tPart (tFld K (tVar 0) "place")) (tPart (tVar 2))) (gName 3))
  (tSeq (tIfS (tOr (tTest (tOp (rInH K false) (tVar 3) (tTup (tCons (tC (.str "")) (tCons (tC (.str "-")) tNil))))) (tOr (tTest (tOp (rInH K false) (tC (.str "-")) (tSl (rSlG K) (tVar 3) (tPart (tC (.int 1))) tNoPart))) (tOr (tTest (tOp rGtG (tCB (rLenC K) (tCons (tVar 3) tNil)) (tC (.int 30)))) (tTest (tOp (rNeG K) (tSl (rSlG K) (tFld K (tVar 0) "text") (tPart (tVar 2)) (tPart (tOp (rAddG K) (tVar 2) (tC (.int 1))))) (tVar 1)))))) (fun _ σ H => W (.ref (He.ga K "RecordFault")) none σ H) tNext)
  (tSeq (sFld K (tVar 0) (tOp (rAddG K) (tVar 2) (tC (.int 1))) "place")
  (tRet (tCB rIntH (tCons (tVar 3) tNil))))))))
abbrev s_TreeReader_digits_to : Stmt := (inClass (top 7) 1)
theorem sc_TreeReader_digits_to : FnScope N_TreeReader_digits_to ["self", "sign"] (defScope s_TreeReader_digits_to) := ⟨rfl, rfl, rfl, by decide +kernel, rfl, by decide +kernel, by decide +kernel⟩
theorem der_TreeReader_digits_to {kF : Nat} (T : Txt K mg) {f : Addr} {cdv : Value} {A : Around} {outer : List Env} {s : Shared} {H : Hp} {E : XK} (hrF : RoomF kF (A.deeper (envOfC "TreeReader.digits_to" (defScope s_TreeReader_digits_to) s.heap.objs.size f cdv))) :
    PSs (cxOf (L2.CX P w) P w K mg base N_TreeReader_digits_to "TreeReader.digits_to" (defScope s_TreeReader_digits_to) f cdv A outer s H E) (defBody s_TreeReader_digits_to) (t_TreeReader_digits_to K (wDef E)) :=
  have hr := hrF.room
  (pss_cons (ps_set (i := 2) sc_TreeReader_digits_to.nd rfl (by first | exact Or.inl rfl | exact Or.inr rfl) (pe_fld (pv 0) rfl))
  (pss_cons (ps_while (passes_of rfl) (PW.pt (pw_and (pt_cmpR (op_ltG hr.units0) (pv 2) (pe_callB call_lenG rfl T.n_len boot_len (pa_cons (pe_fld (pv 0) rfl) pa_nil)) (nomark _)) (pw_and1 (pt_cmpR op_inH (pe_ix ix_seq (pe_fld (pv 0) rfl) (pv 2) (fun _ _ => rfl)) (pe_op op_addG (pe_globS T.c_CODE_DIGITS) pe_str) rfl)))) (pss_one (ps_aug (i := 2) sc_TreeReader_digits_to.nd rfl (by first | exact Or.inl rfl | exact Or.inr rfl) pe_int ip_addA)))
  (pss_cons (ps_set (i := 3) sc_TreeReader_digits_to.nd rfl (by first | exact Or.inl rfl | exact Or.inr rfl) (pe_slice sl_G (pe_fld (pv 0) rfl) (po_some (pe_fld (pv 0) rfl)) (po_some (pv 2))))
  (pss_cons (ps_if (PW.pt (pw_or (pt_cmpR op_inH (pv 3) (pe_tup (pa_cons pe_str (pa_cons pe_str pa_nil))) rfl) (pw_or (pt_cmpR op_inH pe_str (pe_slice sl_G (pv 3) (po_some pe_int) po_none) rfl) (pw_or (pt_cmpR op_gtG (pe_callB call_lenG rfl T.n_len boot_len (pa_cons (pv 3) pa_nil)) pe_int (nomark _)) (pw_or1 (pt_cmpR (op_neG hr.units) (pe_slice sl_G (pe_fld (pv 0) rfl) (po_some (pv 2)) (po_some (pe_op op_addG (pv 2) pe_int))) (pv 1) (nomark _))))))) (pss_one (ps_raise rfl (takes_of rfl rfl rfl rfl) (pmk_own PySem.F.excBase_ValueError T.x_RecordFault T.g_RecordFault T.k_RecordFault (raises_own T.b_RecordFault T.t_RecordFault) (by rfl)))) pss_nil)
  (pss_cons (ps_fld (pv 0) (pe_op op_addG (pv 2) pe_int) rfl)
  (pss_one (ps_ret (pe_callTy call_intH rfl T.n_int PyProof.Rows.boot_int (pa_cons (pv 3) pa_nil)))))))))

/-! TreeReader.item: level 1 -/
abbrev N_TreeReader_item : List Str := ["self", "sign", "many"]
def t_TreeReader_item (K : PySem.W.Frag) (W : WX) (sp_TreeReader_digits_to : Sp) (sp_TreeReader_items_in_brackets : Sp) : TS :=
  (tSeq (tAsg (tSl (rSlG K) (tFld K (tVar 0) "text") (tPart (tFld K (tVar 0) "place")) (tPart (tOp (rAddG K) (tFld K (tVar 0) "place") (tC (.int 1))))) (gName 1))
  (tSeq (tIfS (tTest (tOp (rInH K false) (tVar 1) (tTup (tCons (tC (.str "n")) (tCons (tC (.str "t")) (tCons (tC (.str "f")) tNil)))))) (tSeq (sFldAug K (tVar 0) (tC (.int 1)) rAdd "place")
  (tRet (tDGet (tDisp [((tC (.str "n")), (tC .non)), ((tC (.str "t")), (tC (.bl true))), ((tC (.str "f")), (tC (.bl false)))]) (tVar 1)))) tNext)
  (tSeq (tIfS (tTest (tOp (rEqG K) (tVar 1) (tC (.str "#")))) (tSeq (sFldAug K (tVar 0) (tC (.int 1)) rAdd "place")
  (tRet (tMethF (He.ga K "TreeReader") "digits_to" sp_TreeReader_digits_to (WE W) (tVar 0) (tCons (tC (.str ";")) tNil)))) tNext)
  (tSeq (tIfS (tTest (tOp (rEqG K) (tVar 1) (tC (.str "(")))) (tRet (tMethF (He.ga K "TreeReader") "items_in_brackets" sp_TreeReader_items_in_brackets (WE W) (tVar 0) tNil)) tNext)
  (tSeq (tAsg (tMethF (He.ga K "TreeReader") "digits_to" sp_TreeReader_digits_to (WE W) (tVar 0) (tCons (tC (.str ":")) tNil)) (gName 2))
  (tSeq (tIfS (tOr (tTest (tOp (rLtG K) (tVar 2) (tC (.int 0)))) (tTest (tOp rGtG (tOp (rAddG K) (tFld K (tVar 0) "place") (tVar 2)) (tCB (rLenC K) (tCons (tFld K (tVar 0) "text") tNil))))) (fun _ σ H => W (.ref (He.ga K "RecordFault")) none σ H) tNext)
  (tSeq (sFldAug K (tVar 0) (tVar 2) rAdd "place")
  (tRet (tSl (rSlG K) (tFld K (tVar 0) "text") (tPart (tOp rSubG (tFld K (tVar 0) "place") (tVar 2))) (tPart (tFld K (tVar 0) "place")))))))))))
abbrev s_TreeReader_item : Stmt := (inClass (top 7) 2)
theorem sc_TreeReader_item : FnScope N_TreeReader_item ["self"] (defScope s_TreeReader_item) := ⟨rfl, rfl, rfl, by decide +kernel, rfl, by decide +kernel, by decide +kernel⟩
theorem der_TreeReader_item {sp_TreeReader_digits_to : Sp} {sp_TreeReader_items_in_brackets : Sp} {kF : Nat} (T : Txt K mg) {k_TreeReader_digits_to : Nat} (m_TreeReader_digits_to : MthF P w K mg base k_TreeReader_digits_to (He.ga K "TreeReader") "digits_to" sp_TreeReader_digits_to) (h_TreeReader_digits_to : k_TreeReader_digits_to ≤ kF) {k_TreeReader_items_in_brackets : Nat} (m_TreeReader_items_in_brackets : MthF P w K mg base k_TreeReader_items_in_brackets (He.ga K "TreeReader") "items_in_brackets" sp_TreeReader_items_in_brackets) (h_TreeReader_items_in_brackets : k_TreeReader_items_in_brackets ≤ kF) {f : Addr} {cdv : Value} {A : Around} {outer : List Env} {s : Shared} {H : Hp} {E : XK} (hrF : RoomF kF (A.deeper (envOfC "TreeReader.item" (defScope s_TreeReader_item) s.heap.objs.size f cdv))) :
    PSs (cxOf (L2.CX P w) P w K mg base N_TreeReader_item "TreeReader.item" (defScope s_TreeReader_item) f cdv A outer s H E) (defBody s_TreeReader_item) (t_TreeReader_item K (wDef E) sp_TreeReader_digits_to sp_TreeReader_items_in_brackets) :=
  have hr := hrF.room
  (pss_cons (ps_set (i := 1) sc_TreeReader_item.nd rfl (by first | exact Or.inl rfl | exact Or.inr rfl) (pe_slice sl_G (pe_fld (pv 0) rfl) (po_some (pe_fld (pv 0) rfl)) (po_some (pe_op op_addG (pe_fld (pv 0) rfl) pe_int))))
  (pss_cons (ps_if (pt_cmpR op_inH (pv 1) (pe_tup (pa_cons pe_str (pa_cons pe_str (pa_cons pe_str pa_nil)))) rfl) (pss_cons (ps_fldaug (pv 0) pe_int in_add)
  (pss_one (ps_ret (pe_dget (Nat.lt_trans (Nat.add_lt_add_left (by decide : 1 < 64) _) hr.units) (pe_disp (pps_cons pe_str pe_non (pps_cons pe_str pe_bl (pps_cons pe_str pe_bl pps_nil))) rfl rfl (fun z => nomatch z) (by decide)) (pv 1) (fun _ _ => rfl))))) pss_nil)
  (pss_cons (ps_if (pt_cmpR (op_eqG hr.units) (pv 1) pe_str (nomark _)) (pss_cons (ps_fldaug (pv 0) pe_int in_add)
  (pss_one (ps_ret (pe_mthF m_TreeReader_digits_to hrF (by omega) (fun σ => passAt (takes_of rfl rfl rfl rfl) σ) (pv 0) (pa_cons pe_str pa_nil))))) pss_nil)
  (pss_cons (ps_if (pt_cmpR (op_eqG hr.units) (pv 1) pe_str (nomark _)) (pss_one (ps_ret (pe_mthF0 m_TreeReader_items_in_brackets hrF (by omega) (fun σ => passAt (takes_of rfl rfl rfl rfl) σ) (pv 0)))) pss_nil)
  (pss_cons (ps_set (i := 2) sc_TreeReader_item.nd rfl (by first | exact Or.inl rfl | exact Or.inr rfl) (pe_mthF m_TreeReader_digits_to hrF (by omega) (fun σ => passAt (takes_of rfl rfl rfl rfl) σ) (pv 0) (pa_cons pe_str pa_nil)))
  (pss_cons (ps_if (PW.pt (pw_or (pt_cmpR (op_ltG hr.units0) (pv 2) pe_int (nomark _)) (pw_or1 (pt_cmpR op_gtG (pe_op op_addG (pe_fld (pv 0) rfl) (pv 2)) (pe_callB call_lenG rfl T.n_len boot_len (pa_cons (pe_fld (pv 0) rfl) pa_nil)) (nomark _))))) (pss_one (ps_raise rfl (takes_of rfl rfl rfl rfl) (pmk_own PySem.F.excBase_ValueError T.x_RecordFault T.g_RecordFault T.k_RecordFault (raises_own T.b_RecordFault T.t_RecordFault) (by rfl)))) pss_nil)
  (pss_cons (ps_fldaug (pv 0) (pv 2) in_add)
  (pss_one (ps_ret (pe_slice sl_G (pe_fld (pv 0) rfl) (po_some (pe_op op_subG (pe_fld (pv 0) rfl) (pv 2))) (po_some (pe_fld (pv 0) rfl))))))))))))

/-! TreeReader.items_in_brackets: level 1 -/
abbrev N_TreeReader_items_in_brackets : List Str := ["self", "found"]
def t_TreeReader_items_in_brackets (K : PySem.W.Frag) (W : WX) (sp_TreeReader_item : Sp) : TS :=
  (tSeq (sFldAug K (tVar 0) (tC (.int 1)) rAdd "nesting")
  (tSeq (tIfS (tTest (tOp rGtG (tFld K (tVar 0) "nesting") (tC (.int 200)))) (fun _ σ H => W (.ref (He.ga K "RecordFault")) none σ H) tNext)
  (tSeq (sFldAug K (tVar 0) (tC (.int 1)) rAdd "place")
  (tSeq (tAsg (tLst tNil) (gName 1))
  (tSeq (tWhile (tTest (tOp (rNeG K) (tSl (rSlG K) (tFld K (tVar 0) "text") (tPart (tFld K (tVar 0) "place")) (tPart (tOp (rAddG K) (tFld K (tVar 0) "place") (tC (.int 1))))) (tC (.str ")")))) (tDrop (tBM K "list" rAppend (tVar 1) (tCons (tMethF (He.ga K "TreeReader") "item" sp_TreeReader_item (WE W) (tVar 0) tNil) tNil))))
  (tSeq (sFldAug K (tVar 0) (tC (.int 1)) rAdd "place")
  (tSeq (sFldAug K (tVar 0) (tC (.int 1)) rSub "nesting")
  (tRet (tCB (rTupO K) (tCons (tVar 1) tNil))))))))))
abbrev s_TreeReader_items_in_brackets : Stmt := (inClass (top 7) 3)
theorem sc_TreeReader_items_in_brackets : FnScope N_TreeReader_items_in_brackets ["self"] (defScope s_TreeReader_items_in_brackets) := ⟨rfl, rfl, rfl, by decide +kernel, rfl, by decide +kernel, by decide +kernel⟩
theorem der_TreeReader_items_in_brackets {sp_TreeReader_item : Sp} {kF : Nat} (T : Txt K mg) {k_TreeReader_item : Nat} (m_TreeReader_item : MthF P w K mg base k_TreeReader_item (He.ga K "TreeReader") "item" sp_TreeReader_item) (h_TreeReader_item : k_TreeReader_item ≤ kF) {f : Addr} {cdv : Value} {A : Around} {outer : List Env} {s : Shared} {H : Hp} {E : XK} (hrF : RoomF kF (A.deeper (envOfC "TreeReader.items_in_brackets" (defScope s_TreeReader_items_in_brackets) s.heap.objs.size f cdv))) :
    PSs (cxOf (L2.CX P w) P w K mg base N_TreeReader_items_in_brackets "TreeReader.items_in_brackets" (defScope s_TreeReader_items_in_brackets) f cdv A outer s H E) (defBody s_TreeReader_items_in_brackets) (t_TreeReader_items_in_brackets K (wDef E) sp_TreeReader_item) :=
  have hr := hrF.room
  (pss_cons (ps_fldaug (pv 0) pe_int in_add)
  (pss_cons (ps_if (pt_cmpR op_gtG (pe_fld (pv 0) rfl) (pe_globI T.c_MOST_OPEN_ROWS) (nomark _)) (pss_one (ps_raise rfl (takes_of rfl rfl rfl rfl) (pmk_own PySem.F.excBase_ValueError T.x_RecordFault T.g_RecordFault T.k_RecordFault (raises_own T.b_RecordFault T.t_RecordFault) (by rfl)))) pss_nil)
  (pss_cons (ps_fldaug (pv 0) pe_int in_add)
  (pss_cons (ps_set (i := 1) sc_TreeReader_items_in_brackets.nd rfl (by first | exact Or.inl rfl | exact Or.inr rfl) (pe_lst pa_nil))
  (pss_cons (ps_while (passes_of rfl) (pt_cmpR (op_neG hr.units) (pe_slice sl_G (pe_fld (pv 0) rfl) (po_some (pe_fld (pv 0) rfl)) (po_some (pe_op op_addG (pe_fld (pv 0) rfl) pe_int))) pe_str (nomark _)) (pss_one (ps_expr (pe_bm PySem.F.plainAttrs_list PySem.F.slot_list_append PySem.F.type_list_append mt_append (pv 1) (pa_cons (pe_mthF0 m_TreeReader_item hrF (by omega) (fun σ => passAt (takes_of rfl rfl rfl rfl) σ) (pv 0)) pa_nil)))))
  (pss_cons (ps_fldaug (pv 0) pe_int in_add)
  (pss_cons (ps_fldaug (pv 0) pe_int in_sub)
  (pss_one (ps_ret (pe_callTy call_tupG rfl T.n_tuple PyProof.Rows.boot_tuple (pa_cons (pv 1) pa_nil)))))))))))

/-! pieces: level 1 -/
abbrev N_pieces : List Str := ["text", "size", "found", "place"]
def t_pieces (K : PySem.W.Frag) (W : WX) : TS :=
  (tSeq (tAsg (tLc (iRng3 (tCons (tC (.int 0)) (tCons (tCB (rLenC K) (tCons (tVar 0) tNil)) (tCons (tVar 1) tNil)))) (gName 3) tYes (tSl (rSlG K) (tVar 0) (tPart (tVar 3)) (tPart (tOp (rAddG K) (tVar 3) (tVar 1)))) [3]) (gName 2))
  (tRet (tIf (tTest (tOp (rNeH K) (tVar 2) (tLst tNil))) (tVar 2) (tLst (tCons (tC (.str "")) tNil)))))
abbrev s_pieces : Stmt := (top 9)
theorem sc_pieces : FnScope N_pieces ["text", "size"] (defScope s_pieces) := ⟨rfl, rfl, rfl, by decide +kernel, rfl, by decide +kernel, by decide +kernel⟩
theorem der_pieces {kk : Nat} (T : Txt K mg) {f : Addr} {cdv : Value} {A : Around} {outer : List Env} {s : Shared} {H : Hp} {E : XK} (hr : Room kk (A.deeper (envOfC "pieces" (defScope s_pieces) s.heap.objs.size f cdv))) :
    PSs (cxOf (L2.CX P w) P w K mg base N_pieces "pieces" (defScope s_pieces) f cdv A outer s H E) (defBody s_pieces) (t_pieces K (wDef E)) :=
  
  (pss_cons (ps_setLc (i := 2) (own := [("place", 3)]) (g := (gName 3)) rfl sc_pieces.nd rfl rfl (sw_true rfl rfl rfl (by decide +kernel)) (pi_range3 rfl T.n_range (pa_cons pe_int (pa_cons (pe_callB call_lenG rfl T.n_len boot_len (pa_cons (pv 0) pa_nil)) (pa_cons (pv 1) pa_nil)))) (blkOk_by (N := N_pieces) (sc := defScope s_pieces) (own := [("place", 3)]) (by decide +kernel)) (fun _ _ _ _ _ => (pg_name (i := 3) sc_pieces.nd rfl (by first | exact Or.inl rfl | exact Or.inr rfl))) (fun _ _ _ _ _ => pts_nil) (fun _ _ _ _ _ => (pe_slice sl_G (pv 0) (po_some (pv 3)) (po_some (pe_op op_addG (pv 3) (pv 1))))))
  (pss_one (ps_ret (pe_ifExp (pt_cmpR (op_neH hr.units) (pv 2) (pe_lst pa_nil) (nomark _)) (pv 2) (pe_lst (pa_cons pe_str pa_nil))))))

/-! _law_dice: level 1 -/
abbrev N__law_dice : List Str := ["cell"]
def t__law_dice (K : PySem.W.Frag) (W : WX) : TS :=
  (tSeq (tIfS (tTest (tChain (rLtG K) (rLtG K) (tOp rSubG (tC (.int 0)) (tC (.int 10))) (tVar 0) (tC (.int 10)))) (tRet (tLst (tCons (tCB rAbs (tCons (tVar 0) tNil)) (tCons (tC (.int 0)) (tCons (tC (.int 2)) tNil))))) tNext)
  (tRet (tLst (tCons (tVar 0) (tCons (tOp (rAddG K) (tC (.int 1)) (tOp rModG (tCB rInt1 (tCons (tVar 0) tNil)) (tC (.int 1009)))) (tCons (tCB rInt1 (tCons (tOp rGeG (tVar 0) (tOp rPowG (tC (.int 10)) (tC (.int 18)))) tNil)) tNil))))))
abbrev s__law_dice : Stmt := (top 11)
theorem sc__law_dice : FnScope N__law_dice ["cell"] (defScope s__law_dice) := ⟨rfl, rfl, rfl, by decide +kernel, rfl, by decide +kernel, by decide +kernel⟩
theorem der__law_dice {kk : Nat} (T : Txt K mg) {f : Addr} {cdv : Value} {A : Around} {outer : List Env} {s : Shared} {H : Hp} {E : XK} (hr : Room kk (A.deeper (envOfC "_law_dice" (defScope s__law_dice) s.heap.objs.size f cdv))) :
    PSs (cxOf (L2.CX P w) P w K mg base N__law_dice "_law_dice" (defScope s__law_dice) f cdv A outer s H E) (defBody s__law_dice) (t__law_dice K (wDef E)) :=
  
  (pss_cons (ps_if (pt_chain (op_ltG hr.units0) (op_ltG hr.units0) (pe_op op_subG pe_int pe_int) (pv 0) pe_int) (pss_one (ps_ret (pe_lst (pa_cons (pe_callB call_absG rfl T.n_abs PyProof.Rows.boot_abs (pa_cons (pv 0) pa_nil)) (pa_cons pe_int (pa_cons pe_int pa_nil)))))) pss_nil)
  (pss_one (ps_ret (pe_lst (pa_cons (pv 0) (pa_cons (pe_op op_addG pe_int (pe_op op_modG (pe_callTy call_intG rfl T.n_int PyProof.Rows.boot_int (pa_cons (pv 0) pa_nil)) pe_int)) (pa_cons (pe_callTy call_intG rfl T.n_int PyProof.Rows.boot_int (pa_cons (pe_cmpR op_geG (pv 0) (pe_op op_powG pe_int pe_int) (nomark _)) pa_nil)) pa_nil)))))))

/-! _law_roll: level 1 -/
abbrev N__law_roll : List Str := ["dice", "many", "found"]
def t__law_roll (K : PySem.W.Frag) (W : WX) : TS :=
  (tSeq (tIfS (tOr (tTest (tOp (rEqG K) (tOp (rIx K) (tVar 0) (tC (.int 2))) (tC (.int 2)))) (tAnd (tTest (tOp (rEqG K) (tOp (rIx K) (tVar 0) (tC (.int 2))) (tC (.int 1)))) (tTest (tOp rGtG (tOp (rIx K) (tVar 0) (tC (.int 0))) (tC (.int 0)))))) (tSeq (tAsg (tOp rModG (tCB rInt1 (tCons (tOp (rIx K) (tVar 0) (tC (.int 0))) tNil)) (tVar 1)) (gName 2))
  (tSeq (tAsg (tOp rDivG (tOp (rIx K) (tVar 0) (tC (.int 0))) (tVar 1)) (gSub (tVar 0) (tC (.int 0)) rSetL))
  (tRet (tVar 2)))) tNext)
  (tSeq (tAsg (tC (.int 0)) (gSub (tVar 0) (tC (.int 2)) rSetL))
  (tSeq (tAsg (tOp rModG (tCB rInt1 (tCons (tOp (rAddG K) (tOp (rAddG K) (tOp (rMulG K) (tOp (rIx K) (tVar 0) (tC (.int 0))) (tC (.int 48271))) (tOp (rMulG K) (tOp (rIx K) (tVar 0) (tC (.int 1))) (tC (.int 69621)))) (tC (.int 11))) tNil)) (tC (.int 2147483647))) (gSub (tVar 0) (tC (.int 0)) rSetL))
  (tSeq (tAsg (tOp (rAddG K) (tOp (rIx K) (tVar 0) (tC (.int 1))) (tC (.int 1))) (gSub (tVar 0) (tC (.int 1)) rSetL))
  (tRet (tOp rModG (tCB rInt1 (tCons (tOp rDivG (tOp (rIx K) (tVar 0) (tC (.int 0))) (tC (.int 7))) tNil)) (tVar 1)))))))
abbrev s__law_roll : Stmt := (top 12)
theorem sc__law_roll : FnScope N__law_roll ["dice", "many"] (defScope s__law_roll) := ⟨rfl, rfl, rfl, by decide +kernel, rfl, by decide +kernel, by decide +kernel⟩
theorem der__law_roll {kk : Nat} (T : Txt K mg) {f : Addr} {cdv : Value} {A : Around} {outer : List Env} {s : Shared} {H : Hp} {E : XK} (hr : Room kk (A.deeper (envOfC "_law_roll" (defScope s__law_roll) s.heap.objs.size f cdv))) :
    PSs (cxOf (L2.CX P w) P w K mg base N__law_roll "_law_roll" (defScope s__law_roll) f cdv A outer s H E) (defBody s__law_roll) (t__law_roll K (wDef E)) :=
  
  (pss_cons (ps_if (PW.pt (pw_or (pt_cmpR (op_eqG hr.units) (pe_ix ix_seq (pv 0) pe_int (fun _ _ => rfl)) pe_int (nomark _)) (pw_or1 (PW.pt (pw_and (pt_cmpR (op_eqG hr.units) (pe_ix ix_seq (pv 0) pe_int (fun _ _ => rfl)) pe_int (nomark _)) (pw_and1 (pt_cmpR op_gtG (pe_ix ix_seq (pv 0) pe_int (fun _ _ => rfl)) pe_int (nomark _)))))))) (pss_cons (ps_set (i := 2) sc__law_roll.nd rfl (by first | exact Or.inl rfl | exact Or.inr rfl) (pe_op op_modG (pe_callTy call_intG rfl T.n_int PyProof.Rows.boot_int (pa_cons (pe_ix ix_seq (pv 0) pe_int (fun _ _ => rfl)) pa_nil)) (pv 1)))
  (pss_cons (ps_asg (pe_op op_divG (pe_ix ix_seq (pv 0) pe_int (fun _ _ => rfl)) (pv 1)) (pg_sub (pv 0) pe_int set_list))
  (pss_one (ps_ret (pv 2))))) pss_nil)
  (pss_cons (ps_asg pe_int (pg_sub (pv 0) pe_int set_list))
  (pss_cons (ps_asg (pe_op op_modG (pe_callTy call_intG rfl T.n_int PyProof.Rows.boot_int (pa_cons (pe_op op_addG (pe_op op_addG (pe_op op_mulG (pe_ix ix_seq (pv 0) pe_int (fun _ _ => rfl)) pe_int) (pe_op op_mulG (pe_ix ix_seq (pv 0) pe_int (fun _ _ => rfl)) pe_int)) pe_int) pa_nil)) pe_int) (pg_sub (pv 0) pe_int set_list))
  (pss_cons (ps_asg (pe_op op_addG (pe_ix ix_seq (pv 0) pe_int (fun _ _ => rfl)) pe_int) (pg_sub (pv 0) pe_int set_list))
  (pss_one (ps_ret (pe_op op_modG (pe_callTy call_intG rfl T.n_int PyProof.Rows.boot_int (pa_cons (pe_op op_divG (pe_ix ix_seq (pv 0) pe_int (fun _ _ => rfl)) pe_int) pa_nil)) (pv 1))))))))

/-! _law_shown: level 1 -/
abbrev N__law_shown : List Str := ["tree", "one"]
def t__law_shown (K : PySem.W.Frag) (W : WX) (sp__law_shown : Sp) : TS :=
  (tSeq (tIfS (tOr (tTest (tOp rIsN (tVar 0) (tC .non))) (tOr (tTest (tOp rIsV (tVar 0) (tC (.bl true)))) (tTest (tOp rIsV (tVar 0) (tC (.bl false)))))) (tRet (tIf (tTest (tOp rIsN (tVar 0) (tC .non))) (tC (.str "n")) (tIf (tTest (tOp rIsV (tVar 0) (tC (.bl true)))) (tC (.str "t")) (tC (.str "f"))))) tNext)
  (tSeq (tIfS (tB (tCB (rIsi K) (tCons (tVar 0) (tCons (tC (.ty "str")) tNil)))) (tRet (tOp (rAddG K) (tOp (rAddG K) (tCB rStrI (tCons (tCB (rLenC K) (tCons (tVar 0) tNil)) tNil)) (tC (.str ":"))) (tVar 0))) tNext)
  (tSeq (tIfS (tB (tCB (rIsi K) (tCons (tVar 0) (tCons (tC (.ty "int")) tNil)))) (tRet (tOp (rAddG K) (tOp (rAddG K) (tC (.str "#")) (tCB rStrI (tCons (tVar 0) tNil))) (tC (.str ";")))) tNext)
  (tRet (tOp (rAddG K) (tOp (rAddG K) (tC (.str "(")) (tM1 (rJoin K) (tC (.str "")) (tLc (iSeq K (tVar 0)) (gName 1) tYes (tCallS sp__law_shown E00 (tCons (tVar 1) tNil)) [1]))) (tC (.str ")")))))))
abbrev s__law_shown : Stmt := (top 16)
theorem sc__law_shown : FnScope N__law_shown ["tree"] (defScope s__law_shown) := ⟨rfl, rfl, rfl, by decide +kernel, rfl, by decide +kernel, by decide +kernel⟩
theorem der__law_shown {sp__law_shown : Sp} {kk : Nat} (T : Txt K mg) {k__law_shown : Nat} (c__law_shown : Cal P w K mg base k__law_shown "_law_shown" sp__law_shown) (h__law_shown : k__law_shown ≤ kk) {f : Addr} {cdv : Value} {A : Around} {outer : List Env} {s : Shared} {H : Hp} {E : XK} (hr : Room kk (A.deeper (envOfC "_law_shown" (defScope s__law_shown) s.heap.objs.size f cdv))) :
    PSs (cxOf (L2.CX P w) P w K mg base N__law_shown "_law_shown" (defScope s__law_shown) f cdv A outer s H E) (defBody s__law_shown) (t__law_shown K (wDef E) sp__law_shown) :=
  
  (pss_cons (ps_if (PW.pt (pw_or (pt_cmpR op_isNG (pv 0) pe_non (nomark _)) (pw_or (pt_cmpR op_isV (pv 0) pe_bl (nomark _)) (pw_or1 (pt_cmpR op_isV (pv 0) pe_bl (nomark _)))))) (pss_one (ps_ret (pe_ifExp (pt_cmpR op_isNG (pv 0) pe_non (nomark _)) pe_str (pe_ifExp (pt_cmpR op_isV (pv 0) pe_bl (nomark _)) pe_str pe_str)))) pss_nil)
  (pss_cons (ps_if (pt_val (pe_callB call_isi rfl T.n_isinstance PyProof.Rows.boot_isinstance (pa_cons (pv 0) (pa_cons (pe_bltn rfl T.n_str PyProof.Rows.boot_str rfl) pa_nil)))) (pss_one (ps_ret (pe_op op_addG (pe_op op_addG (pe_callTy call_strI rfl T.n_str PyProof.Rows.boot_str (pa_cons (pe_callB call_lenG rfl T.n_len boot_len (pa_cons (pv 0) pa_nil)) pa_nil)) pe_str) (pv 0)))) pss_nil)
  (pss_cons (ps_if (pt_val (pe_callB call_isi rfl T.n_isinstance PyProof.Rows.boot_isinstance (pa_cons (pv 0) (pa_cons (pe_bltn rfl T.n_int PyProof.Rows.boot_int rfl) pa_nil)))) (pss_one (ps_ret (pe_op op_addG (pe_op op_addG pe_str (pe_callTy call_strI rfl T.n_str PyProof.Rows.boot_str (pa_cons (pv 0) pa_nil))) pe_str))) pss_nil)
  (pss_one (ps_ret (pe_op op_addG (pe_op op_addG pe_str (pe_joinT pe_str (pe_lc (own := [("one", 1)]) (g := (gName 1)) rfl sc__law_shown.nd (pi_seq (pv 0)) (blkOk_by (N := N__law_shown) (sc := defScope s__law_shown) (own := [("one", 1)]) (by decide +kernel)) (fun _ _ _ _ _ => (pg_name (i := 1) sc__law_shown.nd rfl (by first | exact Or.inl rfl | exact Or.inr rfl))) (fun _ _ _ _ _ => pts_nil) (fun _ _ _ _ _ => (pe_cal c__law_shown hr (by omega) rfl (fun σ => passE) (pa_cons (pv 1) pa_nil)))))) pe_str))))))

/-! _law_rounds: level 2 -/
abbrev N__law_rounds : List Str := ["script", "most", "cells", "cell"]
def t__law_rounds (K : PySem.W.Frag) (W : WX) (sp__law_dice : Sp) : TS :=
  (tSeq (tAsg (tSl (rSlG K) (tVar 0) tNoPart (tPart (tVar 1))) (gName 2))
  (tSeq (tIfS (tTest (tOp (rEqG K) (tVar 2) (tLst tNil))) (tAsg (tLst (tCons (tC (.int 0)) tNil)) (gName 2)) tNext)
  (tRet (tLc (iSeq K (tVar 2)) (gName 3) tYes (tCallS sp__law_dice E00 (tCons (tVar 3) tNil)) [3]))))
abbrev s__law_rounds : Stmt := (top 13)
theorem sc__law_rounds : FnScope N__law_rounds ["script", "most"] (defScope s__law_rounds) := ⟨rfl, rfl, rfl, by decide +kernel, rfl, by decide +kernel, by decide +kernel⟩
theorem der__law_rounds {sp__law_dice : Sp} {kk : Nat} (T : Txt K mg) {k__law_dice : Nat} (c__law_dice : Cal P w K mg base k__law_dice "_law_dice" sp__law_dice) (h__law_dice : k__law_dice ≤ kk) {f : Addr} {cdv : Value} {A : Around} {outer : List Env} {s : Shared} {H : Hp} {E : XK} (hr : Room kk (A.deeper (envOfC "_law_rounds" (defScope s__law_rounds) s.heap.objs.size f cdv))) :
    PSs (cxOf (L2.CX P w) P w K mg base N__law_rounds "_law_rounds" (defScope s__law_rounds) f cdv A outer s H E) (defBody s__law_rounds) (t__law_rounds K (wDef E) sp__law_dice) :=
  
  (pss_cons (ps_set (i := 2) sc__law_rounds.nd rfl (by first | exact Or.inl rfl | exact Or.inr rfl) (pe_slice sl_G (pv 0) po_none (po_some (pv 1))))
  (pss_cons (ps_if (pt_cmpR (op_eqG hr.units) (pv 2) (pe_lst pa_nil) (nomark _)) (pss_one (ps_set (i := 2) sc__law_rounds.nd rfl (by first | exact Or.inl rfl | exact Or.inr rfl) (pe_lst (pa_cons pe_int pa_nil)))) pss_nil)
  (pss_one (ps_ret (pe_lc (own := [("cell", 3)]) (g := (gName 3)) rfl sc__law_rounds.nd (pi_seq (pv 2)) (blkOk_by (N := N__law_rounds) (sc := defScope s__law_rounds) (own := [("cell", 3)]) (by decide +kernel)) (fun _ _ _ _ _ => (pg_name (i := 3) sc__law_rounds.nd rfl (by first | exact Or.inl rfl | exact Or.inr rfl))) (fun _ _ _ _ _ => pts_nil) (fun _ _ _ _ _ => (pe_cal c__law_dice hr (by omega) rfl (fun σ => passE) (pa_cons (pv 3) pa_nil))))))))

/-! _law_tree: level 2 -/
abbrev N__law_tree : List Str := ["dice", "deep", "sort", "k"]
def t__law_tree (K : PySem.W.Frag) (W : WX) (sp__law_roll : Sp) (sp__law_tree : Sp) : TS :=
  (tSeq (tAsg (tCallS sp__law_roll (WE W) (tCons (tVar 0) (tCons (tIf (tTest (tOp rGtG (tVar 1) (tC (.int 0)))) (tC (.int 9)) (tC (.int 6))) tNil))) (gName 2))
  (tSeq (tIfS (tTest (tOp (rLtG K) (tVar 2) (tC (.int 3)))) (tRet (tOp (rIx K) (tLst (tCons (tC .non) (tCons (tC (.bl true)) (tCons (tC (.bl false)) tNil)))) (tVar 2))) tNext)
  (tSeq (tIfS (tTest (tOp (rEqG K) (tVar 2) (tC (.int 3)))) (tRet (tOp (rIx K) (tLst (tCons (tOp rSubG (tCallS sp__law_roll (WE W) (tCons (tVar 0) (tCons (tC (.int 9)) tNil))) (tC (.int 4))) (tCons (tCallS sp__law_roll (WE W) (tCons (tVar 0) (tCons (tOp rPowG (tC (.int 10)) (tC (.int 20))) tNil))) (tCons (tOp rSubG (tC (.int 0)) (tCallS sp__law_roll (WE W) (tCons (tVar 0) (tCons (tOp rPowG (tC (.int 10)) (tC (.int 6))) tNil)))) tNil)))) (tCallS sp__law_roll (WE W) (tCons (tVar 0) (tCons (tC (.int 3)) tNil))))) tNext)
  (tSeq (tIfS (tTest (tOp (rLtG K) (tVar 2) (tC (.int 6)))) (tRet (tM1 (rJoin K) (tC (.str "")) (tLc (iRng1 (tCons (tCallS sp__law_roll (WE W) (tCons (tVar 0) (tCons (tC (.int 12)) tNil))) tNil)) (gName 3) tYes (tOp (rIx K) (tC (.str "n(3:;#)x ")) (tCallS sp__law_roll E00 (tCons (tVar 0) (tCons (tC (.int 9)) tNil)))) [3]))) tNext)
  (tRet (tCB (rTupO K) (tCons (tLc (iRng1 (tCons (tCallS sp__law_roll (WE W) (tCons (tVar 0) (tCons (tC (.int 5)) tNil))) tNil)) (gName 3) tYes (tCallS sp__law_tree E00 (tCons (tVar 0) (tCons (tOp rSubG (tVar 1) (tC (.int 1))) tNil))) [3]) tNil)))))))
abbrev s__law_tree : Stmt := (top 15)
theorem sc__law_tree : FnScope N__law_tree ["dice", "deep"] (defScope s__law_tree) := ⟨rfl, rfl, rfl, by decide +kernel, rfl, by decide +kernel, by decide +kernel⟩
theorem der__law_tree {sp__law_roll : Sp} {sp__law_tree : Sp} {kk : Nat} (T : Txt K mg) {k__law_roll : Nat} (c__law_roll : Cal P w K mg base k__law_roll "_law_roll" sp__law_roll) (h__law_roll : k__law_roll ≤ kk) {k__law_tree : Nat} (c__law_tree : Cal P w K mg base k__law_tree "_law_tree" sp__law_tree) (h__law_tree : k__law_tree ≤ kk) {f : Addr} {cdv : Value} {A : Around} {outer : List Env} {s : Shared} {H : Hp} {E : XK} (hr : Room kk (A.deeper (envOfC "_law_tree" (defScope s__law_tree) s.heap.objs.size f cdv))) :
    PSs (cxOf (L2.CX P w) P w K mg base N__law_tree "_law_tree" (defScope s__law_tree) f cdv A outer s H E) (defBody s__law_tree) (t__law_tree K (wDef E) sp__law_roll sp__law_tree) :=
  
  (pss_cons (ps_set (i := 2) sc__law_tree.nd rfl (by first | exact Or.inl rfl | exact Or.inr rfl) (pe_cal c__law_roll hr (by omega) rfl (fun σ => passAt (takes_of rfl rfl rfl rfl) σ) (pa_cons (pv 0) (pa_cons (pe_ifExp (pt_cmpR op_gtG (pv 1) pe_int (nomark _)) pe_int pe_int) pa_nil))))
  (pss_cons (ps_if (pt_cmpR (op_ltG hr.units0) (pv 2) pe_int (nomark _)) (pss_one (ps_ret (pe_ix ix_seq (pe_lst (pa_cons pe_non (pa_cons pe_bl (pa_cons pe_bl pa_nil)))) (pv 2) (fun _ _ => rfl)))) pss_nil)
  (pss_cons (ps_if (pt_cmpR (op_eqG hr.units) (pv 2) pe_int (nomark _)) (pss_one (ps_ret (pe_ix ix_seq (pe_lst (pa_cons (pe_op op_subG (pe_cal c__law_roll hr (by omega) rfl (fun σ => passAt (takes_of rfl rfl rfl rfl) σ) (pa_cons (pv 0) (pa_cons pe_int pa_nil))) pe_int) (pa_cons (pe_cal c__law_roll hr (by omega) rfl (fun σ => passAt (takes_of rfl rfl rfl rfl) σ) (pa_cons (pv 0) (pa_cons (pe_op op_powG pe_int pe_int) pa_nil))) (pa_cons (pe_op op_subG pe_int (pe_cal c__law_roll hr (by omega) rfl (fun σ => passAt (takes_of rfl rfl rfl rfl) σ) (pa_cons (pv 0) (pa_cons (pe_op op_powG pe_int pe_int) pa_nil)))) pa_nil)))) (pe_cal c__law_roll hr (by omega) rfl (fun σ => passAt (takes_of rfl rfl rfl rfl) σ) (pa_cons (pv 0) (pa_cons pe_int pa_nil))) (fun _ _ => rfl)))) pss_nil)
  (pss_cons (ps_if (pt_cmpR (op_ltG hr.units0) (pv 2) pe_int (nomark _)) (pss_one (ps_ret (pe_joinT pe_str (pe_lc (own := [("k", 3)]) (g := (gName 3)) rfl sc__law_tree.nd (pi_range1 rfl T.n_range (pa_cons (pe_cal c__law_roll hr (by omega) rfl (fun σ => passAt (takes_of rfl rfl rfl rfl) σ) (pa_cons (pv 0) (pa_cons pe_int pa_nil))) pa_nil)) (blkOk_by (N := N__law_tree) (sc := defScope s__law_tree) (own := [("k", 3)]) (by decide +kernel)) (fun _ _ _ _ _ => (pg_name (i := 3) sc__law_tree.nd rfl (by first | exact Or.inl rfl | exact Or.inr rfl))) (fun _ _ _ _ _ => pts_nil) (fun _ _ _ _ _ => (pe_ix ix_seq pe_str (pe_cal c__law_roll hr (by omega) rfl (fun σ => passE) (pa_cons (pv 0) (pa_cons pe_int pa_nil))) (fun _ _ => rfl))))))) pss_nil)
  (pss_one (ps_ret (pe_callTy call_tupG rfl T.n_tuple PyProof.Rows.boot_tuple (pa_cons (pe_lc (own := [("k", 3)]) (g := (gName 3)) rfl sc__law_tree.nd (pi_range1 rfl T.n_range (pa_cons (pe_cal c__law_roll hr (by omega) rfl (fun σ => passAt (takes_of rfl rfl rfl rfl) σ) (pa_cons (pv 0) (pa_cons pe_int pa_nil))) pa_nil)) (blkOk_by (N := N__law_tree) (sc := defScope s__law_tree) (own := [("k", 3)]) (by decide +kernel)) (fun _ _ _ _ _ => (pg_name (i := 3) sc__law_tree.nd rfl (by first | exact Or.inl rfl | exact Or.inr rfl))) (fun _ _ _ _ _ => pts_nil) (fun _ _ _ _ _ => (pe_cal c__law_tree hr (by omega) rfl (fun σ => passE) (pa_cons (pv 0) (pa_cons (pe_op op_subG (pv 1) pe_int) pa_nil))))) pa_nil))))))))

/-! tree_from_text: level 3 -/
abbrev N_tree_from_text : List Str := ["text", "reader", "found"]
def t_tree_from_text (K : PySem.W.Frag) (W : WX) (sp_tree_text : Sp) (sp_TreeReader : Sp) (sp_TreeReader_item : Sp) : TS :=
  (tSeq (tAsg (tMake (He.ga K "TreeReader") sp_TreeReader [] XF (tCons (tVar 0) tNil)) (gName 1))
  (tSeq (tAsg (tMethF (He.ga K "TreeReader") "item" sp_TreeReader_item (WE W) (tVar 1) tNil) (gName 2))
  (tSeq (tIfS (tOr (tTest (tOp (rNeG K) (tFld K (tVar 1) "place") (tCB (rLenC K) (tCons (tVar 0) tNil)))) (tTest (tOp (rNeG K) (tCallS sp_tree_text (WE W) (tCons (tVar 2) tNil)) (tVar 0)))) (fun _ σ H => W (.ref (He.ga K "RecordFault")) none σ H) tNext)
  (tRet (tVar 2)))))
abbrev s_tree_from_text : Stmt := (top 8)
theorem sc_tree_from_text : FnScope N_tree_from_text ["text"] (defScope s_tree_from_text) := ⟨rfl, rfl, rfl, by decide +kernel, rfl, by decide +kernel, by decide +kernel⟩
theorem der_tree_from_text {sp_tree_text : Sp} {sp_TreeReader : Sp} {sp_TreeReader_item : Sp} {kk : Nat} {kF : Nat} (T : Txt K mg) {k_tree_text : Nat} (c_tree_text : Cal P w K mg base k_tree_text "tree_text" sp_tree_text) (h_tree_text : k_tree_text ≤ kk) {k_TreeReader : Nat} (n_TreeReader : New P w K mg base k_TreeReader "TreeReader" (He.ga K "TreeReader") sp_TreeReader) (h_TreeReader : k_TreeReader + 1 ≤ kk) {k_TreeReader_item : Nat} (m_TreeReader_item : MthF P w K mg base k_TreeReader_item (He.ga K "TreeReader") "item" sp_TreeReader_item) (h_TreeReader_item : k_TreeReader_item ≤ kF) {f : Addr} {cdv : Value} {A : Around} {outer : List Env} {s : Shared} {H : Hp} {E : XK} (hr : Room kk (A.deeper (envOfC "tree_from_text" (defScope s_tree_from_text) s.heap.objs.size f cdv))) (hrF : RoomF kF (A.deeper (envOfC "tree_from_text" (defScope s_tree_from_text) s.heap.objs.size f cdv))) :
    PSs (cxOf (L2.CX P w) P w K mg base N_tree_from_text "tree_from_text" (defScope s_tree_from_text) f cdv A outer s H E) (defBody s_tree_from_text) (t_tree_from_text K (wDef E) sp_tree_text sp_TreeReader sp_TreeReader_item) :=
  
  (pss_cons (ps_set (i := 1) sc_tree_from_text.nd rfl (by first | exact Or.inl rfl | exact Or.inr rfl) (pe_new n_TreeReader hr (by omega) rfl (pa_cons (pv 0) pa_nil)))
  (pss_cons (ps_set (i := 2) sc_tree_from_text.nd rfl (by first | exact Or.inl rfl | exact Or.inr rfl) (pe_mthF0 m_TreeReader_item hrF (by omega) (fun σ => passAt (takes_of rfl rfl rfl rfl) σ) (pv 1)))
  (pss_cons (ps_if (PW.pt (pw_or (pt_cmpR (op_neG hr.units) (pe_fld (pv 1) rfl) (pe_callB call_lenG rfl T.n_len boot_len (pa_cons (pv 0) pa_nil)) (nomark _)) (pw_or1 (pt_cmpR (op_neG hr.units) (pe_cal c_tree_text hr (by omega) rfl (fun σ => passAt (takes_of rfl rfl rfl rfl) σ) (pa_cons (pv 2) pa_nil)) (pv 0) (nomark _))))) (pss_one (ps_raise rfl (takes_of rfl rfl rfl rfl) (pmk_own PySem.F.excBase_ValueError T.x_RecordFault T.g_RecordFault T.k_RecordFault (raises_own T.b_RecordFault T.t_RecordFault) (by rfl)))) pss_nil)
  (pss_one (ps_ret (pv 2))))))

/-! law: level 6 -/
abbrev N_law : List Str := ["script", "dice", "tree", "text", "place", "changed", "told_now", "size", "cut", "many", "deep", "one"]
def t_law (K : PySem.W.Frag) (W : WX) (sp__law_roll : Sp) (sp__law_rounds : Sp) (sp__law_shown : Sp) (sp__law_tree : Sp) (sp_pieces : Sp) (sp_tree_from_text : Sp) (sp_tree_text : Sp) : TS :=
  (tSeq (tFor (iSeq K (tCallS sp__law_rounds (WE W) (tCons (tVar 0) (tCons (tC (.int 1)) tNil)))) (gName 1) (tSeq (tAsg (tCallS sp__law_tree (WE W) (tCons (tVar 1) (tCons (tCallS sp__law_roll (WE W) (tCons (tVar 1) (tCons (tC (.int 6)) tNil))) tNil))) (gName 2))
  (tSeq (tAsg (tCallS sp_tree_text (WE W) (tCons (tVar 2) tNil)) (gName 3))
  (tSeq (tIfS (tOr (tTest (tOp (rNeG K) (tVar 3) (tCallS sp__law_shown (WE W) (tCons (tVar 2) tNil)))) (tTest (tOp (rNeH K) (tCallS sp_tree_from_text (WE W) (tCons (tVar 3) tNil)) (tVar 2)))) (tRet (tC (.bl false))) tNext)
  (tSeq (tAsg (tCallS sp__law_roll (WE W) (tCons (tVar 1) (tCons (tOp (rAddG K) (tCB (rLenC K) (tCons (tVar 3) tNil)) (tC (.int 1))) tNil))) (gName 4))
  (tSeq (tAsg (tOp (rAddG K) (tOp (rAddG K) (tSl (rSlG K) (tVar 3) tNoPart (tPart (tVar 4))) (tOp (rMulH K) (tOp (rIx K) (tC (.str "()n:#;07-")) (tCallS sp__law_roll (WE W) (tCons (tVar 1) (tCons (tC (.int 9)) tNil)))) (tCallS sp__law_roll (WE W) (tCons (tVar 1) (tCons (tC (.int 2)) tNil))))) (tSl (rSlG K) (tVar 3) (tPart (tOp (rAddG K) (tVar 4) (tCallS sp__law_roll (WE W) (tCons (tVar 1) (tCons (tC (.int 2)) tNil))))) tNoPart)) (gName 5))
  (tSeq (tAsg (LamX.tLam Tt.tb (LamX.TTold K (He.ga K "RecordFault") "RecordFault") (fun EL => (tCallS sp_tree_from_text (WE (wDef EL)) (tCons (tVar 5) tNil)))) (gName 6))
  (tSeq (tIfS (tOr (tAnd (tTest (tOp (rNeH K) (tVar 6) (tC (.str "RecordFault")))) (tTest (tOp (rNeG K) (tCallS sp__law_shown (WE W) (tCons (tVar 6) tNil)) (tVar 5)))) (tAnd (tTest (tOp (rEqG K) (tVar 5) (tVar 3))) (tTest (tOp (rEqH K) (tVar 6) (tC (.str "RecordFault")))))) (tRet (tC (.bl false))) tNext)
  (tSeq (tAsg (tOp (rAddG K) (tC (.int 1)) (tCallS sp__law_roll (WE W) (tCons (tVar 1) (tCons (tC (.int 9)) tNil)))) (gName 7))
  (tSeq (tAsg (tCallS sp_pieces (WE W) (tCons (tVar 3) (tCons (tVar 7) tNil))) (gName 8))
  (tSeq (tIfS (tOr (tTest (tOp (rNeG K) (tM1 (rJoin K) (tC (.str "")) (tVar 8)) (tVar 3))) (tOr (tTest (tOp (rNeH K) (tLc (iSeq K (tVar 8)) (gName 11) (tNot (tTest (tChain (rLtG K) rLeG (tC (.int 0)) (tCB (rLenC K) (tCons (tVar 11) tNil)) (tVar 7)))) (tVar 11) [11]) (tLst tNil))) (tTest (tOp (rNeG K) (tCB (rLenC K) (tCons (tVar 8) tNil)) (tOp rDivG (tOp rSubG (tOp (rAddG K) (tCB (rLenC K) (tCons (tVar 3) tNil)) (tVar 7)) (tC (.int 1))) (tVar 7)))))) (tRet (tC (.bl false))) tNext)
  (tSeq (tAsg (tCallS sp__law_roll (WE W) (tCons (tVar 1) (tCons (tC (.int 300)) tNil))) (gName 9))
  (tSeq (tAsg (LamX.tLam Tt.tb (LamX.TTold K (He.ga K "RecordFault") "RecordFault") (fun EL => (tCallS sp_tree_from_text (WE (wDef EL)) (tCons (tOp (rAddG K) (tOp (rMulH K) (tC (.str "(")) (tVar 9)) (tOp (rMulH K) (tC (.str ")")) (tVar 9))) tNil)))) (gName 10))
  (tIfS (tOr (tAnd (tTest (tOp (rEqG K) (tVar 9) (tC (.int 0)))) (tTest (tOp (rNeH K) (tVar 10) (tC (.str "RecordFault"))))) (tAnd (tTest (tOp rGtG (tVar 9) (tC (.int 0)))) (tTest (tOp (rNeG K) (tOp (rEqH K) (tVar 10) (tC (.str "RecordFault"))) (tOp rGtG (tVar 9) (tC (.int 200))))))) (tRet (tC (.bl false))) tNext))))))))))))))
  (tSeq (tIfS (tOr (tTest (tOp (rNeH K) (LamX.tLam Tt.tb (LamX.TTold K (He.ga K "RecordFault") "RecordFault") (fun EL => (tCallS sp_tree_from_text (WE (wDef EL)) (tCons (tOp (rAddG K) (tOp (rAddG K) (tC (.str "(#")) (tOp (rMulH K) (tC (.str "1")) (tC (.int 31)))) (tC (.str ";)"))) tNil)))) (tC (.str "RecordFault")))) (tTest (tOp (rNeG K) (tCallS sp_tree_from_text (WE W) (tCons (tOp (rAddG K) (tOp (rAddG K) (tC (.str "(#")) (tOp (rMulH K) (tC (.str "1")) (tC (.int 19)))) (tC (.str ";)"))) tNil)) (tTup (tCons (tCB rIntH (tCons (tOp (rMulH K) (tC (.str "1")) (tC (.int 19))) tNil)) tNil))))) (tRet (tC (.bl false))) tNext)
  (tRet (tAndV (tOp (rEqG K) (tCallS sp_pieces (WE W) (tCons (tC (.str "")) (tCons (tC (.int 3)) tNil))) (tLst (tCons (tC (.str "")) tNil))) (tOp (rEqG K) (tCallS sp_tree_text (WE W) (tCons (tTup (tCons (tC (.int 1)) (tCons (tC (.str "a")) tNil))) tNil)) (tC (.str "(#1;1:a)")))))))
abbrev s_law : Stmt := (top 17)
theorem sc_law : FnScope N_law ["script"] (defScope s_law) := ⟨rfl, rfl, rfl, by decide +kernel, rfl, by decide +kernel, by decide +kernel⟩
abbrev lamQ_law : Str := (envOfC "law" (defScope s_law) 0 0 .none).qual ++ "<lambda>"
theorem der_law {sp__law_roll : Sp} {sp__law_rounds : Sp} {sp__law_shown : Sp} {sp__law_tree : Sp} {sp_pieces : Sp} {sp_tree_from_text : Sp} {sp_tree_text : Sp} {kk : Nat} {kl : Nat} (T : Txt K mg) (hkl : kl + 2 ≤ kk) {k__law_roll : Nat} (c__law_roll : Cal P w K mg base k__law_roll "_law_roll" sp__law_roll) (h__law_roll : k__law_roll ≤ kl) {k__law_rounds : Nat} (c__law_rounds : Cal P w K mg base k__law_rounds "_law_rounds" sp__law_rounds) (h__law_rounds : k__law_rounds ≤ kl) {k__law_shown : Nat} (c__law_shown : Cal P w K mg base k__law_shown "_law_shown" sp__law_shown) (h__law_shown : k__law_shown ≤ kl) {k__law_tree : Nat} (c__law_tree : Cal P w K mg base k__law_tree "_law_tree" sp__law_tree) (h__law_tree : k__law_tree ≤ kl) {k_pieces : Nat} (c_pieces : Cal P w K mg base k_pieces "pieces" sp_pieces) (h_pieces : k_pieces ≤ kl) {k_tree_from_text : Nat} (c_tree_from_text : Cal P w K mg base k_tree_from_text "tree_from_text" sp_tree_from_text) (h_tree_from_text : k_tree_from_text ≤ kl) {k_tree_text : Nat} (c_tree_text : Cal P w K mg base k_tree_text "tree_text" sp_tree_text) (h_tree_text : k_tree_text ≤ kl) {f : Addr} {cdv : Value} {A : Around} {outer : List Env} {s : Shared} {H : Hp} {E : XK} {cc Pt : Addr} (TB : LamX.TabB base mg cc Pt) (hmT : (Pt, lamQ_law) ∈ Tt.tb) (hu : ∀ p ∈ Tt.tb, p.1 = Pt → p.2 = lamQ_law) {g_told : Addr} {fd_told : FuncData} (F_told : FunD K "_law_told" "_law_told" (defArgs s__law_told) (defBody s__law_told) (defScope s__law_told) [] [] g_told fd_told) (M_told : mg "_law_told" = some (.ref g_told)) (B_told : Binds K fd_told ["what"] []) (HC : cdv = .ref cc) (hr : Room kk (A.deeper (envOfC "law" (defScope s_law) s.heap.objs.size f cdv))) :
    PSs (cxOf (L2.CX P w) P w K mg base N_law "law" (defScope s_law) f cdv A outer s H E) (defBody s_law) (t_law K (wDef E) sp__law_roll sp__law_rounds sp__law_shown sp__law_tree sp_pieces sp_tree_from_text sp_tree_text) :=
  
  (pss_cons (ps_for (passes_of rfl) rfl (pi_seq (pe_cal c__law_rounds hr (by omega) rfl (fun σ => passAt (takes_of rfl rfl rfl rfl) σ) (pa_cons (pv 0) (pa_cons pe_int pa_nil)))) (pg_name (i := 1) sc_law.nd rfl (by first | exact Or.inl rfl | exact Or.inr rfl)) (pss_cons (ps_set (i := 2) sc_law.nd rfl (by first | exact Or.inl rfl | exact Or.inr rfl) (pe_cal c__law_tree hr (by omega) rfl (fun σ => passAt (takes_of rfl rfl rfl rfl) σ) (pa_cons (pv 1) (pa_cons (pe_cal c__law_roll hr (by omega) rfl (fun σ => passAt (takes_of rfl rfl rfl rfl) σ) (pa_cons (pv 1) (pa_cons pe_int pa_nil))) pa_nil))))
  (pss_cons (ps_set (i := 3) sc_law.nd rfl (by first | exact Or.inl rfl | exact Or.inr rfl) (pe_cal c_tree_text hr (by omega) rfl (fun σ => passAt (takes_of rfl rfl rfl rfl) σ) (pa_cons (pv 2) pa_nil)))
  (pss_cons (ps_if (PW.pt (pw_or (pt_cmpR (op_neG hr.units) (pv 3) (pe_cal c__law_shown hr (by omega) rfl (fun σ => passAt (takes_of rfl rfl rfl rfl) σ) (pa_cons (pv 2) pa_nil)) (nomark _)) (pw_or1 (pt_cmpR (op_neH hr.units) (pe_cal c_tree_from_text hr (by omega) rfl (fun σ => passAt (takes_of rfl rfl rfl rfl) σ) (pa_cons (pv 3) pa_nil)) (pv 2) (nomark _))))) (pss_one (ps_ret pe_bl)) pss_nil)
  (pss_cons (ps_set (i := 4) sc_law.nd rfl (by first | exact Or.inl rfl | exact Or.inr rfl) (pe_cal c__law_roll hr (by omega) rfl (fun σ => passAt (takes_of rfl rfl rfl rfl) σ) (pa_cons (pv 1) (pa_cons (pe_op op_addG (pe_callB call_lenG rfl T.n_len boot_len (pa_cons (pv 3) pa_nil)) pe_int) pa_nil))))
  (pss_cons (ps_set (i := 5) sc_law.nd rfl (by first | exact Or.inl rfl | exact Or.inr rfl) (pe_op op_addG (pe_op op_addG (pe_slice sl_G (pv 3) po_none (po_some (pv 4))) (pe_op op_mulH (pe_ix ix_seq pe_str (pe_cal c__law_roll hr (by omega) rfl (fun σ => passAt (takes_of rfl rfl rfl rfl) σ) (pa_cons (pv 1) (pa_cons pe_int pa_nil))) (fun _ _ => rfl)) (pe_cal c__law_roll hr (by omega) rfl (fun σ => passAt (takes_of rfl rfl rfl rfl) σ) (pa_cons (pv 1) (pa_cons pe_int pa_nil))))) (pe_slice sl_G (pv 3) (po_some (pe_op op_addG (pv 4) (pe_cal c__law_roll hr (by omega) rfl (fun σ => passAt (takes_of rfl rfl rfl rfl) σ) (pa_cons (pv 1) (pa_cons pe_int pa_nil))))) po_none)))
  (pss_cons (ps_set (i := 6) sc_law.nd rfl (by first | exact Or.inl rfl | exact Or.inr rfl) (pe_told (k := kl) F_told M_told B_told sc__law_told (.inl rfl) rfl T.g_RecordFault TB HC hmT hu (hr.mono hkl) rfl (LamX.lamS_by (sc := defScope s_law) (by decide +kernel)) rfl (fun _ _ _ _ _ => rfl) (fun A outer s H EL f c' hr => (pe_cal c_tree_from_text hr (by omega) rfl (fun σ => passAt (takes_of rfl rfl rfl rfl) σ) (pa_cons (pv 5) pa_nil)))))
  (pss_cons (ps_if (PW.pt (pw_or (PW.pt (pw_and (pt_cmpR (op_neH hr.units) (pv 6) pe_str (nomark _)) (pw_and1 (pt_cmpR (op_neG hr.units) (pe_cal c__law_shown hr (by omega) rfl (fun σ => passAt (takes_of rfl rfl rfl rfl) σ) (pa_cons (pv 6) pa_nil)) (pv 5) (nomark _))))) (pw_or1 (PW.pt (pw_and (pt_cmpR (op_eqG hr.units) (pv 5) (pv 3) (nomark _)) (pw_and1 (pt_cmpR (op_eqH hr.units) (pv 6) pe_str (nomark _)))))))) (pss_one (ps_ret pe_bl)) pss_nil)
  (pss_cons (ps_set (i := 7) sc_law.nd rfl (by first | exact Or.inl rfl | exact Or.inr rfl) (pe_op op_addG pe_int (pe_cal c__law_roll hr (by omega) rfl (fun σ => passAt (takes_of rfl rfl rfl rfl) σ) (pa_cons (pv 1) (pa_cons pe_int pa_nil)))))
  (pss_cons (ps_set (i := 8) sc_law.nd rfl (by first | exact Or.inl rfl | exact Or.inr rfl) (pe_cal c_pieces hr (by omega) rfl (fun σ => passAt (takes_of rfl rfl rfl rfl) σ) (pa_cons (pv 3) (pa_cons (pv 7) pa_nil))))
  (pss_cons (ps_if (PW.pt (pw_or (pt_cmpR (op_neG hr.units) (pe_joinT pe_str (pv 8)) (pv 3) (nomark _)) (pw_or (pt_cmpR (op_neH hr.units) (pe_lc (own := [("one", 11)]) (g := (gName 11)) rfl sc_law.nd (pi_seq (pv 8)) (blkOk_by (N := N_law) (sc := defScope s_law) (own := [("one", 11)]) (by decide +kernel)) (fun _ _ _ _ _ => (pg_name (i := 11) sc_law.nd rfl (by first | exact Or.inl rfl | exact Or.inr rfl))) (fun _ _ _ _ _ => (pts_one (pt_not (pt_chain (op_ltG hr.units0) op_leG pe_int (pe_callB call_lenG rfl T.n_len boot_len (pa_cons (pv 11) pa_nil)) (pv 7))))) (fun _ _ _ _ _ => (pv 11))) (pe_lst pa_nil) (nomark _)) (pw_or1 (pt_cmpR (op_neG hr.units) (pe_callB call_lenG rfl T.n_len boot_len (pa_cons (pv 8) pa_nil)) (pe_op op_divG (pe_op op_subG (pe_op op_addG (pe_callB call_lenG rfl T.n_len boot_len (pa_cons (pv 3) pa_nil)) (pv 7)) pe_int) (pv 7)) (nomark _)))))) (pss_one (ps_ret pe_bl)) pss_nil)
  (pss_cons (ps_set (i := 9) sc_law.nd rfl (by first | exact Or.inl rfl | exact Or.inr rfl) (pe_cal c__law_roll hr (by omega) rfl (fun σ => passAt (takes_of rfl rfl rfl rfl) σ) (pa_cons (pv 1) (pa_cons pe_int pa_nil))))
  (pss_cons (ps_set (i := 10) sc_law.nd rfl (by first | exact Or.inl rfl | exact Or.inr rfl) (pe_told (k := kl) F_told M_told B_told sc__law_told (.inl rfl) rfl T.g_RecordFault TB HC hmT hu (hr.mono hkl) rfl (LamX.lamS_by (sc := defScope s_law) (by decide +kernel)) rfl (fun _ _ _ _ _ => rfl) (fun A outer s H EL f c' hr => (pe_cal c_tree_from_text hr (by omega) rfl (fun σ => passAt (takes_of rfl rfl rfl rfl) σ) (pa_cons (pe_op op_addG (pe_op op_mulH pe_str (pv 9)) (pe_op op_mulH pe_str (pv 9))) pa_nil)))))
  (pss_one (ps_if (PW.pt (pw_or (PW.pt (pw_and (pt_cmpR (op_eqG hr.units) (pv 9) pe_int (nomark _)) (pw_and1 (pt_cmpR (op_neH hr.units) (pv 10) pe_str (nomark _))))) (pw_or1 (PW.pt (pw_and (pt_cmpR op_gtG (pv 9) pe_int (nomark _)) (pw_and1 (pt_cmpR (op_neG hr.units) (pe_cmpR (op_eqH hr.units) (pv 10) pe_str (nomark _)) (pe_cmpR op_gtG (pv 9) pe_int (nomark _)) (nomark _)))))))) (pss_one (ps_ret pe_bl)) pss_nil)))))))))))))))
  (pss_cons (ps_if (PW.pt (pw_or (pt_cmpR (op_neH hr.units) (pe_told (k := kl) F_told M_told B_told sc__law_told (.inl rfl) rfl T.g_RecordFault TB HC hmT hu (hr.mono hkl) rfl (LamX.lamS_by (sc := defScope s_law) (by decide +kernel)) rfl (fun _ _ _ _ _ => rfl) (fun A outer s H EL f c' hr => (pe_cal c_tree_from_text hr (by omega) rfl (fun σ => passAt (takes_of rfl rfl rfl rfl) σ) (pa_cons (pe_op op_addG (pe_op op_addG pe_str (pe_op op_mulH pe_str pe_int)) pe_str) pa_nil)))) pe_str (nomark _)) (pw_or1 (pt_cmpR (op_neG hr.units) (pe_cal c_tree_from_text hr (by omega) rfl (fun σ => passAt (takes_of rfl rfl rfl rfl) σ) (pa_cons (pe_op op_addG (pe_op op_addG pe_str (pe_op op_mulH pe_str pe_int)) pe_str) pa_nil)) (pe_tup (pa_cons (pe_callTy call_intH rfl T.n_int PyProof.Rows.boot_int (pa_cons (pe_op op_mulH pe_str pe_int) pa_nil)) pa_nil)) (nomark _))))) (pss_one (ps_ret pe_bl)) pss_nil)
  (pss_one (ps_ret (pe_and (pe_cmpR (op_eqG hr.units) (pe_cal c_pieces hr (by omega) rfl (fun σ => passAt (takes_of rfl rfl rfl rfl) σ) (pa_cons pe_str (pa_cons pe_int pa_nil))) (pe_lst (pa_cons pe_str pa_nil)) (nomark _)) (pe_one (pe_cmpR (op_eqG hr.units) (pe_cal c_tree_text hr (by omega) rfl (fun σ => passAt (takes_of rfl rfl rfl rfl) σ) (pa_cons (pe_tup (pa_cons pe_int (pa_cons pe_str pa_nil))) pa_nil)) pe_str (nomark _))))))))

def b_law (K : PySem.W.Frag) (W : WX) (sp__law_roll : Sp) (sp__law_rounds : Sp) (sp__law_shown : Sp) (sp__law_tree : Sp) (sp_pieces : Sp) (sp_tree_from_text : Sp) (sp_tree_text : Sp) : TS :=
  (tSeq (tAsg (tCallS sp__law_tree (WE W) (tCons (tVar 1) (tCons (tCallS sp__law_roll (WE W) (tCons (tVar 1) (tCons (tC (.int 6)) tNil))) tNil))) (gName 2))
  (tSeq (tAsg (tCallS sp_tree_text (WE W) (tCons (tVar 2) tNil)) (gName 3))
  (tSeq (tIfS (tOr (tTest (tOp (rNeG K) (tVar 3) (tCallS sp__law_shown (WE W) (tCons (tVar 2) tNil)))) (tTest (tOp (rNeH K) (tCallS sp_tree_from_text (WE W) (tCons (tVar 3) tNil)) (tVar 2)))) (tRet (tC (.bl false))) tNext)
  (tSeq (tAsg (tCallS sp__law_roll (WE W) (tCons (tVar 1) (tCons (tOp (rAddG K) (tCB (rLenC K) (tCons (tVar 3) tNil)) (tC (.int 1))) tNil))) (gName 4))
  (tSeq (tAsg (tOp (rAddG K) (tOp (rAddG K) (tSl (rSlG K) (tVar 3) tNoPart (tPart (tVar 4))) (tOp (rMulH K) (tOp (rIx K) (tC (.str "()n:#;07-")) (tCallS sp__law_roll (WE W) (tCons (tVar 1) (tCons (tC (.int 9)) tNil)))) (tCallS sp__law_roll (WE W) (tCons (tVar 1) (tCons (tC (.int 2)) tNil))))) (tSl (rSlG K) (tVar 3) (tPart (tOp (rAddG K) (tVar 4) (tCallS sp__law_roll (WE W) (tCons (tVar 1) (tCons (tC (.int 2)) tNil))))) tNoPart)) (gName 5))
  (tSeq (tAsg (LamX.tLam Tt.tb (LamX.TTold K (He.ga K "RecordFault") "RecordFault") (fun EL => (tCallS sp_tree_from_text (WE (wDef EL)) (tCons (tVar 5) tNil)))) (gName 6))
  (tSeq (tIfS (tOr (tAnd (tTest (tOp (rNeH K) (tVar 6) (tC (.str "RecordFault")))) (tTest (tOp (rNeG K) (tCallS sp__law_shown (WE W) (tCons (tVar 6) tNil)) (tVar 5)))) (tAnd (tTest (tOp (rEqG K) (tVar 5) (tVar 3))) (tTest (tOp (rEqH K) (tVar 6) (tC (.str "RecordFault")))))) (tRet (tC (.bl false))) tNext)
  (tSeq (tAsg (tOp (rAddG K) (tC (.int 1)) (tCallS sp__law_roll (WE W) (tCons (tVar 1) (tCons (tC (.int 9)) tNil)))) (gName 7))
  (tSeq (tAsg (tCallS sp_pieces (WE W) (tCons (tVar 3) (tCons (tVar 7) tNil))) (gName 8))
  (tSeq (tIfS (tOr (tTest (tOp (rNeG K) (tM1 (rJoin K) (tC (.str "")) (tVar 8)) (tVar 3))) (tOr (tTest (tOp (rNeH K) (tLc (iSeq K (tVar 8)) (gName 11) (tNot (tTest (tChain (rLtG K) rLeG (tC (.int 0)) (tCB (rLenC K) (tCons (tVar 11) tNil)) (tVar 7)))) (tVar 11) [11]) (tLst tNil))) (tTest (tOp (rNeG K) (tCB (rLenC K) (tCons (tVar 8) tNil)) (tOp rDivG (tOp rSubG (tOp (rAddG K) (tCB (rLenC K) (tCons (tVar 3) tNil)) (tVar 7)) (tC (.int 1))) (tVar 7)))))) (tRet (tC (.bl false))) tNext)
  (tSeq (tAsg (tCallS sp__law_roll (WE W) (tCons (tVar 1) (tCons (tC (.int 300)) tNil))) (gName 9))
  (tSeq (tAsg (LamX.tLam Tt.tb (LamX.TTold K (He.ga K "RecordFault") "RecordFault") (fun EL => (tCallS sp_tree_from_text (WE (wDef EL)) (tCons (tOp (rAddG K) (tOp (rMulH K) (tC (.str "(")) (tVar 9)) (tOp (rMulH K) (tC (.str ")")) (tVar 9))) tNil)))) (gName 10))
  (tIfS (tOr (tAnd (tTest (tOp (rEqG K) (tVar 9) (tC (.int 0)))) (tTest (tOp (rNeH K) (tVar 10) (tC (.str "RecordFault"))))) (tAnd (tTest (tOp rGtG (tVar 9) (tC (.int 0)))) (tTest (tOp (rNeG K) (tOp (rEqH K) (tVar 10) (tC (.str "RecordFault"))) (tOp rGtG (tVar 9) (tC (.int 200))))))) (tRet (tC (.bl false))) tNext)))))))))))))
def f_law (K : PySem.W.Frag) (W : WX) (sp__law_roll : Sp) (sp__law_rounds : Sp) (sp__law_shown : Sp) (sp__law_tree : Sp) (sp_pieces : Sp) (sp_tree_from_text : Sp) (sp_tree_text : Sp) : TE :=
  (tAndV (tOp (rEqG K) (tCallS sp_pieces (WE W) (tCons (tC (.str "")) (tCons (tC (.int 3)) tNil))) (tLst (tCons (tC (.str "")) tNil))) (tOp (rEqG K) (tCallS sp_tree_text (WE W) (tCons (tTup (tCons (tC (.int 1)) (tCons (tC (.str "a")) tNil))) tNil)) (tC (.str "(#1;1:a)"))))
def r_law (K : PySem.W.Frag) (W : WX) (sp__law_roll : Sp) (sp__law_rounds : Sp) (sp__law_shown : Sp) (sp__law_tree : Sp) (sp_pieces : Sp) (sp_tree_from_text : Sp) (sp_tree_text : Sp) : TS :=
  (tSeq (tIfS (tOr (tTest (tOp (rNeH K) (LamX.tLam Tt.tb (LamX.TTold K (He.ga K "RecordFault") "RecordFault") (fun EL => (tCallS sp_tree_from_text (WE (wDef EL)) (tCons (tOp (rAddG K) (tOp (rAddG K) (tC (.str "(#")) (tOp (rMulH K) (tC (.str "1")) (tC (.int 31)))) (tC (.str ";)"))) tNil)))) (tC (.str "RecordFault")))) (tTest (tOp (rNeG K) (tCallS sp_tree_from_text (WE W) (tCons (tOp (rAddG K) (tOp (rAddG K) (tC (.str "(#")) (tOp (rMulH K) (tC (.str "1")) (tC (.int 19)))) (tC (.str ";)"))) tNil)) (tTup (tCons (tCB rIntH (tCons (tOp (rMulH K) (tC (.str "1")) (tC (.int 19))) tNil)) tNil))))) (tRet (tC (.bl false))) tNext)
  (tRet (tAndV (tOp (rEqG K) (tCallS sp_pieces (WE W) (tCons (tC (.str "")) (tCons (tC (.int 3)) tNil))) (tLst (tCons (tC (.str "")) tNil))) (tOp (rEqG K) (tCallS sp_tree_text (WE W) (tCons (tTup (tCons (tC (.int 1)) (tCons (tC (.str "a")) tNil))) tNil)) (tC (.str "(#1;1:a)"))))))

end
end K07


/-! k07: the reader's methods. -/
namespace K07
open PySem PySem.Spec PyProof.Rows L2 Ts
section
variable [Tt] {K : PySem.W.Frag} {W : WX}
abbrev RF (K : PySem.W.Frag) : Addr := He.ga K "RecordFault"
abbrev RC (K : PySem.W.Frag) : Addr := He.ga K "TreeReader"
structure RdC (K : PySem.W.Frag) : Prop where
  c : Cls K (RC K)
  n1 : NoAttr K (RC K) "text"
  n2 : NoAttr K (RC K) "place"
  n3 : NoAttr K (RC K) "nesting"
/-- the reader's fields -/
def rF (cs : List Nat) (p m : Nat) : List (Str × D) := [("text", tD cs), ("place", .int (p : Int)), ("nesting", .int (m : Int))]
theorem put_p (cs : List Nat) (p m : Nat) {i : Int} {p' : Nat} (h : i = (p' : Int)) : putD "place" (.int i) (rF cs p m) = rF cs p' m := by
  subst h
  have e1 : ¬ (("text" : Str) = "place") := by decide +kernel
  show (if ("text" : Str) = "place" then _ else _) = _
  rw [if_neg e1]
  show _ :: (if ("place" : Str) = "place" then _ else _) = _
  rw [if_pos rfl]
  rfl
theorem put_m (cs : List Nat) (p m : Nat) {i : Int} {m' : Nat} (h : i = (m' : Int)) : putD "nesting" (.int i) (rF cs p m) = rF cs p m' := by
  subst h
  have e1 : ¬ (("text" : Str) = "nesting") := by decide +kernel
  have e2 : ¬ (("place" : Str) = "nesting") := by decide +kernel
  show (if ("text" : Str) = "nesting" then _ else _) = _
  rw [if_neg e1]
  show _ :: (if ("place" : Str) = "nesting" then _ else _) = _
  rw [if_neg e2]
  show _ :: _ :: (if ("nesting" : Str) = "nesting" then _ else _) = _
  rw [if_pos rfl]
  rfl
section
variable {E : L2.St → XK} {Δ : En} {X : Addr → Prop} {te tf : TE} {cs : List Nat} {p m i : Nat} {a : Addr}
theorem ev_text (rc : RdC K) (hi : Δ[i]? = some (Sl.ins a (RC K) (rF cs p m))) : Ev K E (tFld K (tVar i) "text") Δ (· = tD cs) X := ev_mfld hi rc.c rc.n1 rfl
theorem ev_place (rc : RdC K) (hi : Δ[i]? = some (Sl.ins a (RC K) (rF cs p m))) : Ev K E (tFld K (tVar i) "place") Δ (· = .int (p : Int)) X := ev_mfld hi rc.c rc.n2 rfl
theorem ev_nest (rc : RdC K) (hi : Δ[i]? = some (Sl.ins a (RC K) (rF cs p m))) : Ev K E (tFld K (tVar i) "nesting") Δ (· = .int (m : Int)) X := ev_mfld hi rc.c rc.n3 rfl
/-- text[a:b] -/
theorem ev_cutX {ta tb : TE} {b c : Nat} (h1 : Ev K E te Δ (· = tD cs) X) (ha : Ev K E ta Δ (· = .int (b : Nat)) X) (hb : Ev K E tb Δ (· = .int (c : Nat)) X) (hl : cs.length ≤ 1000000) : Ev K E (tSl (rSlG K) te (tPart ta) (tPart tb)) Δ (· = tD ((cs.take c).drop b)) X :=
  ev_is (ev1_sl h1 (eo1_some ha) (eo1_some hb) (sd_str (by rw [sx_len]; exact szl hl))) (by rw [cut_sx])
theorem cutn {cs : List Nat} {q n : Nat} : (cs.take (q + n)).drop q = (cs.drop q).take n := by
  rw [List.drop_take]
  congr 1
  omega
theorem ev_add {x y : Nat} (h : Ev K E te Δ (· = .int (x : Int)) X) (h2 : Ev K E tf Δ (· = .int (y : Int)) X) : Ev K E (tOp (rAddG K) te tf) Δ (· = .int ((x + y : Nat) : Int)) X := ev_is (ev1_op h h2 od_add) (by rw [Int.natCast_add])
end
/-! ### digits_to -/
theorem ds_at : ∀ {l : List Nat} {j : Nat}, j < (dsOf l).length → ∃ c, l[j]? = some c ∧ c ∈ DM
  | [], j, h => by simp [dsOf] at h
  | c :: r, j, h => by
    unfold dsOf at h
    by_cases hc : c ∈ DM
    · rw [List.takeWhile_cons_of_pos (by simpa using hc), List.length_cons] at h
      cases j with
      | zero => exact ⟨c, rfl, hc⟩
      | succ j => exact ds_at (l := r) (j := j) (Nat.lt_of_succ_lt_succ h)
    · rw [List.takeWhile_cons_of_neg (by simpa using hc)] at h
      simp at h
theorem ds_end : ∀ {l : List Nat} {c : Nat}, l[(dsOf l).length]? = some c → c ∉ DM
  | [], c, h => by simp at h
  | d :: r, c, h => by
    unfold dsOf at h
    by_cases hd : d ∈ DM
    · rw [List.takeWhile_cons_of_pos (by simpa using hd), List.length_cons, List.getElem?_cons_succ] at h
      exact ds_end (l := r) h
    · rw [List.takeWhile_cons_of_neg (by simpa using hd)] at h
      have e : d = c := by simpa using h
      rw [← e]; exact hd
theorem ds_take (l : List Nat) : l.take (dsOf l).length = dsOf l := by
  have e : l = dsOf l ++ l.dropWhile (fun c => decide (c ∈ DM)) := List.takeWhile_append_dropWhile.symm
  have : (dsOf l ++ l.dropWhile (fun c => decide (c ∈ DM))).take (dsOf l).length = dsOf l := List.take_left
  rw [← e] at this
  exact this
theorem int_of {ds : List Nat} (hd : ∀ c ∈ ds, c ∈ DM) (h0 : ds ≠ []) (h1 : ds ≠ [45]) (h2 : 45 ∉ ds.drop 1) (h3 : ds.length ≤ 30) : PySem.intText? (sx ds) = some (valI ds) := by
  have dig : ∀ r : List Nat, (∀ c ∈ r, c ∈ DM) → 45 ∉ r → ∀ c ∈ r, 48 ≤ c ∧ c ≤ 57 := fun r h n c hc => by
    rcases (dm_iff c).mp (h c hc) with z | z
    · exact absurd (z ▸ hc) n
    · exact z
  cases ds with
  | nil => exact absurd rfl h0
  | cons c r =>
    have hr := dig r (fun c hc => hd c (.tail _ hc)) h2
    by_cases hc : c = 45
    · subst hc
      have e := PySem.intText_neg (x := sx (45 :: r)) (cs := r) (by rw [sx_cps]) hr (fun z => h1 (by rw [z])) (by rw [sx_len]; omega)
      exact e
    · have hall : ∀ d ∈ c :: r, 48 ≤ d ∧ d ≤ 57 := fun d h => by
        rcases List.mem_cons.mp h with z | z
        · rw [z]
          rcases (dm_iff c).mp (hd c (.head _)) with z | z
          · exact absurd z hc
          · exact z
        · exact hr d z
      have e := PySem.intText_digits (x := sx (c :: r)) (by rw [sx_cps]; exact hall) (by rw [sx_cps]; exact h0) (by rw [sx_len]; omega)
      rw [sx_cps] at e
      rw [e]
      unfold valI
      split
      · rename_i r' e'
        injection e' with e1 e2
        exact absurd e1 hc
      · rfl
theorem in2 {ds : List Nat} : inV (.str (sx ds)) ([("" : Str), "-"].map V.str) = decide (ds = [] ∨ ds = [45]) := by
  have e1 : ("" : Str) = sx [] := by decide +kernel
  have e2 : ("-" : Str) = sx [45] := by decide +kernel
  rw [e1, e2]
  have k : ∀ l : List Nat, eqV (.str (sx l)) (.str (sx ds)) = decide (ds = l) := fun l => by
    show decide (sx l = sx ds) = _
    rw [sx_eq, decide_eq_decide]
    exact ⟨Eq.symm, Eq.symm⟩
  show (eqV (.str (sx [])) (.str (sx ds)) || (eqV (.str (sx [45])) (.str (sx ds)) || false)) = _
  rw [k, k, Bool.or_false, ← Bool.decide_or]
abbrev dgI := List Nat × Nat × Nat × Nat
def dgP (i : dgI) : Prop := i.2.1 ≤ i.1.length ∧ i.1.length ≤ 100000
def dgR (K : PySem.W.Frag) (i : dgI) : MRes := match dg i.2.2.2 (i.1.drop i.2.1) with
  | none => .exc (RF K)
  | some (v, rest) => .ret (.int v) (rF i.1 (i.1.length - rest.length) i.2.2.1)
abbrev spDg (K : PySem.W.Frag) : Sp := spM K (RC K) (fun i : dgI => rF i.1 i.2.1 i.2.2.1) (fun i => [tD [i.2.2.2]]) dgP (dgR K)
theorem digits_xs (rc : RdC K) (i : dgI) (a : Addr) (h : dgP i) : Xs K W (t_TreeReader_digits_to K W) (argsM N_TreeReader_digits_to a (RC K) (rF i.1 i.2.1 i.2.2.1) [tD [i.2.2.2]]) (fnM a (RC K) (dgR K i)) := by
  obtain ⟨cs, p, m, sg⟩ := i
  obtain ⟨hp, hl⟩ := h
  replace hp : p ≤ cs.length := hp
  replace hl : cs.length ≤ 100000 := hl
  have hll : cs.length ≤ 1000000 := by omega
  obtain ⟨l, hcl⟩ : ∃ l, l = cs.drop p := ⟨_, rfl⟩
  have hn := dsOf_len l
  have hlen : l.length = cs.length - p := by rw [hcl, List.length_drop]
  obtain ⟨n, hnn⟩ : ∃ n, n = (dsOf l).length := ⟨_, rfl⟩
  rw [← hnn] at hn
  have at_ : ∀ j, cs[p + j]? = l[j]? := fun j => by rw [hcl, List.getElem?_drop]
  have eD : ("0123456789" : Str) = sx [48, 49, 50, 51, 52, 53, 54, 55, 56, 57] := by decide +kernel
  have eM : ("-" : Str) = sx [45] := by decide +kernel
  refine xs_seq (xs1_asg (d := .int (p : Int)) (ev_place rc rfl) (then_nx (xs_seq ?_)))
  refine xs_while (fun k Δ' => ∃ j, Δ' = [.ins a (RC K) (rF cs p m), .dat (tD [sg]), .dat (.int ((p + j : Nat) : Int)), .no] ∧ j + k = n) n ⟨0, rfl, by omega⟩ ?_
  rintro k Δ' ⟨j, rfl, hj⟩
  have hb : Et K (WE W) (tAnd (tTest (tOp (rLtG K) (tVar 2) (tCB (rLenC K) (tCons (tFld K (tVar 0) "text") tNil)))) (tTest (tOp (rInH K false) (tOp (rIx K) (tFld K (tVar 0) "text") (tVar 2)) (tOp (rAddG K) (tC (.str "0123456789")) (tC (.str "-"))))))
      [.ins a (RC K) (rF cs p m), .dat (tD [sg]), .dat (.int ((p + j : Nat) : Int)), .no] (· = decide (j < n)) fun _ => False := by
    refine et_is (et1_and (a := decide (((p + j : Nat) : Int) < (cs.length : Nat))) (b := decide (j < n)) (et1_val (ev1_op (ev_var rfl) (ev_tlen (ev_text rc rfl) hll) od_lt)) fun hlt => ?_) ?_
    · have hlt := of_decide_eq_true hlt
      obtain ⟨c, hc⟩ := get_ex (xs := cs) (i := p + j) (by omega)
      refine et1_val (ev_is (ev1_op (ev1_op (ev_text rc rfl) (ev_var rfl) (od_at hll rfl hc)) (ev_app (ev_c eD) (ev_c eM) (by decide)) (od_inS (neg := false))) ?_)
      show D.bl (decide (c ∈ DM)) = .bl (decide (j < n))
      congr 1
      rw [decide_eq_decide]
      rw [at_] at hc
      constructor
      · intro hd
        rcases Nat.lt_or_ge j n with z | z
        · exact z
        · have : j = n := by omega
          rw [this, hnn] at hc
          exact absurd hd (ds_end hc)
      · intro z
        obtain ⟨c', h1, h2⟩ := ds_at (l := l) (j := j) (by omega)
        rw [hc] at h1
        cases h1
        exact h2
    · cases hd : decide (((p + j : Nat) : Int) < (cs.length : Nat)) with
      | true => rfl
      | false =>
        have := of_decide_eq_false hd
        exact (decide_eq_false (by omega)).symm
  refine ⟨_, _, hb, fun _ z => z.elim, fun e => ?_, fun e => ?_⟩
  · have hjn := of_decide_eq_true e.symm
    exact xs1_aug (x := .int ((p + j : Nat) : Int)) (y := .int 1) (z := .int ((p + (j + 1) : Nat) : Int)) rfl ev_int iadA ⟨k - 1, by omega, j + 1, rfl, by omega⟩
  · have hjn := of_decide_eq_false e.symm
    have hj : j = n := by omega
    subst hj
    refine then_nx ?_
    refine xs_seq (xs1_asg (d := tD (dsOf l)) (ev_is (ev_cutX (b := p) (c := p + j) (ev_text rc rfl) (ev_place rc rfl) (ev_var rfl) hll) (by rw [cutn, ← hcl, hnn, ds_take])) (then_nx ?_))
    have hR : dgR K (cs, p, m, sg) = if badD sg (dsOf l) (l.drop j) then .exc (RF K) else .ret (.int (valI (dsOf l))) (rF cs (cs.length - (l.drop (j + 1)).length) m) := by
      unfold dgR
      show (match dg sg (cs.drop p) with | none => _ | some (v, rest) => _) = _
      rw [← hcl, hnn]
      unfold dg
      by_cases hb : badD sg (dsOf l) (l.drop (dsOf l).length)
      · rw [if_pos hb, if_pos hb]
      · rw [if_neg hb, if_neg hb]
    have e0 : decide (dsOf l = [] ∨ dsOf l = [45]) = inV (.str (sx (dsOf l))) ([("" : Str), "-"].map V.str) := in2.symm
    refine xs_seq (xs1_if (b := decide (badD sg (dsOf l) (l.drop j))) (et_is (et1_or (a := decide (dsOf l = [] ∨ dsOf l = [45])) (b := decide (45 ∈ (dsOf l).drop 1) || (decide (30 < (dsOf l).length) || !decide ((l.drop j).take 1 = [sg]))) (et1_val (ev_is (ev1_op (ev_var (d := tD (dsOf l)) rfl) (ev1_tup (ds := ([("" : Str), "-"].map D.str)) (ea1_cons ev_str (ea1_cons ev_str ea_nil))) (od_inW (neg := false))) (by rw [e0]; rfl))) fun _ => ?_) ?_) (fun hb => xs_raise ?_) fun hb => xs_next (then_nx ?_))
    · refine et1_or (a := decide (45 ∈ (dsOf l).drop 1)) (et1_val (ev1_op (ev_c eM) (ev_is (ev1_sl (ev_var (d := tD (dsOf l)) rfl) (eo1_some (i := ((1 : Nat) : Int)) ev_int) eo_none (sd_str (by rw [sx_len]; exact szl (by omega)))) (by rw [cut_from])) (od_inS (neg := false)))) fun _ => ?_
      refine et1_or (a := decide (30 < (dsOf l).length)) (et1_val (ev_is (ev1_op (ev_tlen (ev_var (d := tD (dsOf l)) rfl) (by omega)) ev_int od_gt) (by congr 1; rw [decide_eq_decide]; omega))) fun _ => ?_
      refine et1_val (ev1_op (x := tD ((l.drop j).take 1)) (ev_is (ev_cutX (b := p + j) (c := p + j + 1) (ev_text rc rfl) (ev_var rfl) (ev_add (ev_var rfl) ev_int) hll) ?_) (ev_var rfl) od_neT)
      rw [cutn, hcl, List.drop_drop]
    · rw [← decide_not, ← Bool.decide_or, ← Bool.decide_or, ← Bool.decide_or]
      refine decide_eq_decide.mpr ?_
      constructor
      · rintro ((z | z) | z | z | z)
        · exact .inl z
        · exact .inr (.inl z)
        · exact .inr (.inr (.inl z))
        · exact .inr (.inr (.inr (.inl z)))
        · exact .inr (.inr (.inr (.inr z)))
      · rintro (z | z | z | z | z)
        · exact .inl (.inl z)
        · exact .inl (.inr z)
        · exact .inr (.inl z)
        · exact .inr (.inr (.inl z))
        · exact .inr (.inr (.inr z))
    · show dgR K (cs, p, m, sg) = _
      rw [hR, if_pos (of_decide_eq_true hb)]
    · have hb := of_decide_eq_false hb
      rw [if_neg hb] at hR
      have b1 : dsOf l ≠ [] := fun z => hb (.inl z)
      have b2 : dsOf l ≠ [45] := fun z => hb (.inr (.inl z))
      have b3 : 45 ∉ (dsOf l).drop 1 := fun z => hb (.inr (.inr (.inl z)))
      have b4 : (dsOf l).length ≤ 30 := Nat.le_of_not_lt fun z => hb (.inr (.inr (.inr (.inl z))))
      have b5 : (l.drop j).take 1 = [sg] := Classical.byContradiction fun z => hb (.inr (.inr (.inr (.inr z))))
      have b6 := congrArg List.length b5
      rw [List.length_take, List.length_drop, List.length_singleton] at b6
      refine xs_seq (xs1_fld rfl rc.c rc.n2 (by show 3 < 1000; decide) (ev_add (ev_var rfl) ev_int) (then_nx ?_))
      refine xs1_retM (ev_intT (a := sx (dsOf l)) (ev_var rfl) (int_of (dsOf_dm l) b1 b2 b3 b4) (by rw [sx_len]; omega)) ?_
      refine ⟨rF cs (cs.length - (l.drop (j + 1)).length) m, hR, ?_⟩
      show some (Sl.ins a (RC K) (putD "place" _ (rF cs p m))) = _
      rw [put_p (p' := p + j + 1) _ _ _ rfl, List.length_drop]
      congr 3
      omega
end
end K07


/-! k07: item and items_in_brackets. -/
namespace K07
open PySem PySem.Spec PyProof.Rows L2 Ts
section
variable [Tt] {K : PySem.W.Frag} {W : WX}
theorem EvS.imp {E : L2.St → XK} {te : TE} {Δ : En} {R R' : D → En → Prop} {X : Addr → En → Prop} (h : EvS K E te Δ R X) (f : ∀ d Δ', R d Δ' → R' d Δ') : EvS K E te Δ R' X := fun q G0 H0 G H σ Q s k kx =>
  h q G0 H0 G H σ Q s (fun v d Δ' G' H' e s' r p => k v d Δ' G' H' e s' r (f d Δ' p)) kx
abbrev itI := List Nat × Nat × Nat
def itP (r : Nat) (i : itI) : Prop := i.2.2 + r = 200 ∧ i.2.1 ≤ i.1.length ∧ i.1.length ≤ 100000
def toR (K : PySem.W.Frag) (cs : List Nat) (m : Nat) : Option (Tr × List Nat) → MRes
  | none => .exc (RF K)
  | some (t, rest) => .ret (dD t) (rF cs (cs.length - rest.length) m)
def itR (K : PySem.W.Frag) (r : Nat) (i : itI) : MRes := toR K i.1 i.2.2 (pIt r (i.1.drop i.2.1))
abbrev spIt (K : PySem.W.Frag) (r : Nat) : Sp := spM K (RC K) (fun i : itI => rF i.1 i.2.1 i.2.2) (fun _ => []) (itP r) (itR K r)
def inP (r : Nat) (i : itI) : Prop := i.2.2 + r = 200 ∧ i.2.1 < i.1.length ∧ i.1.length ≤ 100000
def inR (K : PySem.W.Frag) (r : Nat) (i : itI) : MRes := toR K i.1 i.2.2 (pIn r (i.1.drop (i.2.1 + 1)))
abbrev spIn (K : PySem.W.Frag) (r : Nat) : Sp := spM K (RC K) (fun i : itI => rF i.1 i.2.1 i.2.2) (fun _ => []) (inP r) (inR K r)
/-- of which nothing is promised -/
abbrev spIt0 (K : PySem.W.Frag) : Sp := spM K (RC K) (fun i : itI => rF i.1 i.2.1 i.2.2) (fun _ => []) (fun _ => False) (itR K 0)
theorem take1 {l : List Nat} {c : Nat} (h : l.take 1 = [c]) : ∃ q, l = c :: q := by
  cases l with
  | nil => cases h
  | cons d q =>
    injection h with h
    exact ⟨q, by rw [h]⟩
theorem item_else {g : PF} {l : List Nat} (h1 : ¬ (l.take 1 = [110] ∨ l.take 1 = [116] ∨ l.take 1 = [102])) (h2 : l.take 1 ≠ [35]) (h3 : l.take 1 ≠ [40]) : itemC g l = match dg 58 l with
      | none => none
      | some (m, r') => if m < 0 ∨ (r'.length : Int) < m then none else some (.txt (r'.take m.toNat), r'.drop m.toNat) := by
  cases l with
  | nil => rfl
  | cons c q =>
    have n : ∀ {d : Nat}, (c :: q).take 1 ≠ [d] → c ≠ d := fun h z => h (by rw [z]; rfl)
    rw [itemC, if_neg (n fun z => h1 (.inl z)), if_neg (n fun z => h1 (.inr (.inl z))), if_neg (n fun z => h1 (.inr (.inr z))), if_neg (n h2), if_neg (n h3)]
    first | done | rfl
theorem in3 {ds : List Nat} : inV (.str (sx ds)) ([("n" : Str), "t", "f"].map V.str) = decide (ds = [110] ∨ ds = [116] ∨ ds = [102]) := by
  have e1 : ("n" : Str) = sx [110] := by decide +kernel
  have e2 : ("t" : Str) = sx [116] := by decide +kernel
  have e3 : ("f" : Str) = sx [102] := by decide +kernel
  rw [e1, e2, e3]
  have k : ∀ l : List Nat, eqV (.str (sx l)) (.str (sx ds)) = decide (ds = l) := fun l => by
    show decide (sx l = sx ds) = _
    rw [sx_eq, decide_eq_decide]
    exact ⟨Eq.symm, Eq.symm⟩
  show (eqV (.str (sx [110])) (.str (sx ds)) || (eqV (.str (sx [116])) (.str (sx ds)) || (eqV (.str (sx [102])) (.str (sx ds)) || false))) = _
  rw [k, k, k, Bool.or_false, ← Bool.decide_or, ← Bool.decide_or]
abbrev Pz : List (Str × D) := [("n", .non), ("t", .bl true), ("f", .bl false)]
theorem ev_nul {E : L2.St → XK} {Δ : En} {X : Addr → Prop} {te : TE} {c : Nat} {t : Tr} (ht : (c = 110 ∧ t = .nul) ∨ (c = 116 ∧ t = .bl true) ∨ (c = 102 ∧ t = .bl false)) (h : Ev K E te Δ (· = tD [c]) X) :
    Ev K E (tDGet (tDisp [((tC (.str "n")), (tC .non)), ((tC (.str "t")), (tC (.bl true))), ((tC (.str "f")), (tC (.bl false)))]) te) Δ (· = dD t) X := by
  have e1 : ("n" : Str) = sx [110] := by decide +kernel
  have e2 : ("t" : Str) = sx [116] := by decide +kernel
  have e3 : ("f" : Str) = sx [102] := by decide +kernel
  rcases ht with ⟨rfl, rfl⟩ | ⟨rfl, rfl⟩ | ⟨rfl, rfl⟩
  · exact ev_dget (ps := Pz) (vs := [.non, .bl true, .bl false]) (x := "n") (v := .non) rfl (by decide) (ev_is h (by rw [e1])) (by decide +kernel) rfl
  · exact ev_dget (ps := Pz) (vs := [.non, .bl true, .bl false]) (x := "t") (v := .bl true) rfl (by decide) (ev_is h (by rw [e2])) (by decide +kernel) rfl
  · exact ev_dget (ps := Pz) (vs := [.non, .bl true, .bl false]) (x := "f") (v := .bl false) rfl (by decide) (ev_is h (by rw [e3])) (by decide +kernel) rfl
theorem item_xs (rc : RdC K) (r : Nat) (i : itI) (a : Addr) (h : itP r i) : Xs K W (t_TreeReader_item K W (spDg K) (spIn K r)) (argsM N_TreeReader_item a (RC K) (rF i.1 i.2.1 i.2.2) []) (fnM a (RC K) (itR K r i)) := by
  obtain ⟨cs, p, m⟩ := i
  obtain ⟨hm, hp, hl⟩ := h
  replace hm : m + r = 200 := hm
  replace hp : p ≤ cs.length := hp
  replace hl : cs.length ≤ 100000 := hl
  have hll : cs.length ≤ 1000000 := by omega
  obtain ⟨l, hcl⟩ : ∃ l, l = cs.drop p := ⟨_, rfl⟩
  have hlen : l.length = cs.length - p := by rw [hcl, List.length_drop]
  have hR : itR K r (cs, p, m) = toR K cs m (itemC (pIn r) l) := by
    show toR K cs m (pIt r (cs.drop p)) = _
    rw [pIt_in, hcl]
  have tl : ∀ {c : Nat}, l.take 1 = [c] → l = c :: cs.drop (p + 1) ∧ p < cs.length := fun {c} h => by
    obtain ⟨q, e⟩ := take1 h
    have e2 := congrArg List.length e
    rw [hlen, List.length_cons] at e2
    refine ⟨?_, by omega⟩
    have : l.drop 1 = q := by rw [e]; rfl
    rw [hcl, List.drop_drop] at this
    rw [e, this]
  have eH : ("#" : Str) = sx [35] := by decide +kernel
  have eB : ("(" : Str) = sx [40] := by decide +kernel
  have eS : (";" : Str) = sx [59] := by decide +kernel
  have eC : (":" : Str) = sx [58] := by decide +kernel
  refine xs_seq (xs1_asg (d := tD (l.take 1)) (ev_is (ev_cutX (b := p) (c := p + 1) (ev_text rc rfl) (ev_place rc rfl) (ev_add (ev_place rc rfl) ev_int) hll) (by rw [cutn, ← hcl])) (then_nx ?_))
  refine xs_seq (xs1_if (b := decide (l.take 1 = [110] ∨ l.take 1 = [116] ∨ l.take 1 = [102])) (et1_val (ev_is (ev1_op (ev_var (d := tD (l.take 1)) rfl) (ev1_tup (ds := ([("n" : Str), "t", "f"].map D.str)) (ea1_cons ev_str (ea1_cons ev_str (ea1_cons ev_str ea_nil)))) (od_inW (neg := false))) (congrArg D.bl in3))) (fun hb => ?_) fun hb => xs_next (then_nx ?_))
  · have hb := of_decide_eq_true hb
    obtain ⟨c, t, hc, ht⟩ : ∃ c t, l.take 1 = [c] ∧ ((c = 110 ∧ t = Tr.nul) ∨ (c = 116 ∧ t = .bl true) ∨ (c = 102 ∧ t = .bl false)) := by
      rcases hb with z | z | z
      · exact ⟨_, _, z, .inl ⟨rfl, rfl⟩⟩
      · exact ⟨_, _, z, .inr (.inl ⟨rfl, rfl⟩)⟩
      · exact ⟨_, _, z, .inr (.inr ⟨rfl, rfl⟩)⟩
    obtain ⟨hl1, hp1⟩ := tl hc
    have hi : itemC (pIn r) l = some (t, cs.drop (p + 1)) := by
      rw [hl1]
      rcases ht with ⟨rfl, rfl⟩ | ⟨rfl, rfl⟩ | ⟨rfl, rfl⟩ <;> rfl
    rw [hc]
    refine xs_seq (xs1_fldaug (x := (p : Int)) (y := 1) (z := (p : Int) + 1) rfl rc.c rc.n2 (by show 3 < 1000; decide) rfl ev_int r_add ?_)
    rw [put_p (i := (p : Int) + 1) (p' := p + 1) cs p m rfl]
    refine then_nx (xs1_retM (ev_nul ht (ev_var rfl)) ⟨rF cs (p + 1) m, ?_, rfl⟩)
    rw [hR, hi]
    show MRes.ret (dD t) (rF cs (cs.length - (cs.drop (p + 1)).length) m) = _
    rw [List.length_drop]
    congr 2
    omega
  have n1 := of_decide_eq_false hb
  refine xs_seq (xs1_if (b := decide (l.take 1 = [35])) (et1_val (ev1_op (ev_var (d := tD (l.take 1)) rfl) (ev_c eH) od_eqT)) (fun hb => ?_) fun hb => xs_next (then_nx ?_))
  · obtain ⟨hl1, hp1⟩ := tl (of_decide_eq_true hb)
    have hi : itemC (pIn r) l = (dg 59 (cs.drop (p + 1))).map (fun p => (.num p.1, p.2)) := by rw [hl1]; rfl
    rw [hi] at hR
    refine xs_seq (xs1_fldaug (x := (p : Int)) (y := 1) (z := (p : Int) + 1) rfl rc.c rc.n2 (by show 3 < 1000; decide) rfl ev_int r_add ?_)
    rw [put_p (i := (p : Int) + 1) (p' := p + 1) cs p m rfl]
    have hd : dgR K (cs, p + 1, m, 59) = itR K r (cs, p, m) := by
      rw [hR]
      show (match dg 59 (cs.drop (p + 1)) with | none => _ | some (v, rest) => _) = _
      cases dg 59 (cs.drop (p + 1)) with
      | none => rfl
      | some x => rfl
    refine then_nx (xs_retS (evs_meth (j := ((cs, p + 1, m, 59) : dgI)) rfl rfl (ea1_cons (ev_c eS) ea_nil) ⟨hp1, hl⟩) (fun B Δ' x => ?_) fun d Δ' x => ?_)
    · show itR K r (cs, p, m) = _
      rw [← hd]; exact x.1
    · obtain ⟨fs, hr, rfl⟩ := x
      exact ⟨fs, by rw [← hd]; exact hr, rfl⟩
  have n2 := of_decide_eq_false hb
  refine xs_seq (xs1_if (b := decide (l.take 1 = [40])) (et1_val (ev1_op (ev_var (d := tD (l.take 1)) rfl) (ev_c eB) od_eqT)) (fun hb => ?_) fun hb => xs_next (then_nx ?_))
  · obtain ⟨hl1, hp1⟩ := tl (of_decide_eq_true hb)
    have hd : inR K r (cs, p, m) = itR K r (cs, p, m) := by
      rw [hR, hl1]
      rfl
    refine xs_retS (evs_meth (j := ((cs, p, m) : itI)) rfl rfl ea_nil ⟨hm, hp1, hl⟩) (fun B Δ' x => ?_) fun d Δ' x => ?_
    · show itR K r (cs, p, m) = _
      rw [← hd]; exact x.1
    · obtain ⟨fs, hr, rfl⟩ := x
      exact ⟨fs, by rw [← hd]; exact hr, rfl⟩
  have n3 := of_decide_eq_false hb
  rw [item_else n1 n2 n3] at hR
  refine xs_seq (xs_asgS (evs_meth (j := ((cs, p, m, 58) : dgI)) rfl rfl (ea1_cons (ev_c eC) ea_nil) ⟨hp, hl⟩) (fun B Δ' x => ?_) fun d Δ' x => ?_)
  · show itR K r (cs, p, m) = _
    have x := x.1
    unfold dgR at x
    replace x : (match dg 58 (cs.drop p) with | none => MRes.exc (RF K) | some (v, rest) => .ret (.int v) (rF cs (cs.length - rest.length) m)) = .exc B := x
    rw [← hcl] at x
    rw [hR]
    cases hg : dg 58 l with
    | none => rw [hg] at x; exact x
    | some y => rw [hg] at x; cases x
  · obtain ⟨fs, x, rfl⟩ := x
    unfold dgR at x
    replace x : (match dg 58 (cs.drop p) with | none => MRes.exc (RF K) | some (v, rest) => .ret (.int v) (rF cs (cs.length - rest.length) m)) = .ret d fs := x
    rw [← hcl] at x
    cases hg : dg 58 l with
    | none => rw [hg] at x; cases x
    | some y =>
      obtain ⟨v, r'⟩ := y
      rw [hg] at x hR
      cases x
      obtain ⟨k, k1, k2, k3, _⟩ := dg_takes hg
      have hr' : r'.length = cs.length - p - k := by rw [k3, List.length_drop, hlen]
      obtain ⟨p2, hp2⟩ : ∃ p2, p2 = cs.length - r'.length := ⟨_, rfl⟩
      have hdr : cs.drop p2 = r' := by
        have : p2 = p + k := by omega
        rw [this, k3, hcl, List.drop_drop]
      rw [← hp2]
      have hv : v = ((v.toNat : Nat) : Int) ∨ v < 0 := by omega
      refine then_nx (xs_seq (xs1_if (b := decide (v < 0 ∨ (r'.length : Int) < v)) (et_is (et1_or (a := decide (v < 0)) (b := decide ((cs.length : Int) < (p2 : Int) + v)) (et1_val (ev1_op (ev_var (d := .int v) rfl) ev_int od_lt)) fun _ => et1_val (ev1_op (ev1_op (ev_place rc rfl) (ev_var (d := .int v) rfl) od_add) (ev_tlen (ev_text rc rfl) hll) od_gt)) ?_) (fun hb => xs_raise ?_) fun hb => xs_next (then_nx ?_)))
      · rw [← Bool.decide_or]
        refine decide_eq_decide.mpr ?_
        omega
      · show itR K r (cs, p, m) = _
        rw [hR]
        simp only
        rw [if_pos (of_decide_eq_true hb)]
        rfl
      · have hb := of_decide_eq_false hb
        simp only at hR
        rw [if_neg hb] at hR
        have hv : v = ((v.toNat : Nat) : Int) := by omega
        have hvl : v.toNat ≤ r'.length := by omega
        obtain ⟨n, hn⟩ : ∃ n, n = v.toNat := ⟨_, rfl⟩
        rw [← hn] at hv hvl hR
        subst hv
        refine xs_seq (xs1_fldaug (x := (p2 : Int)) (y := (n : Int)) (z := (p2 : Int) + n) rfl rc.c rc.n2 (by show 3 < 1000; decide) rfl (ev_var rfl) r_add ?_)
        rw [put_p (i := (p2 : Int) + n) (p' := p2 + n) cs p2 m (by omega)]
        refine then_nx (xs1_retM (d := tD (r'.take n)) (ev_is (ev_cutX (b := p2) (c := p2 + n) (ev_text rc rfl) (ev_is (ev1_op (ev_place rc rfl) (ev_var (d := .int (n : Int)) rfl) od_sub) (by congr 1; omega)) (ev_place rc rfl) hll) (by rw [cutn, hdr])) ⟨rF cs (p2 + n) m, ?_, rfl⟩)
        rw [hR]
        show MRes.ret (dD (.txt (r'.take n))) (rF cs (cs.length - (r'.drop n).length) m) = _
        rw [List.length_drop]
        have : cs.length - (r'.length - n) = p2 + n := by omega
        rw [this]
        rfl
end
end K07


/-! k07: items_in_brackets. -/
namespace K07
open PySem PySem.Spec PyProof.Rows L2 Ts
section
variable [Tt] {K : PySem.W.Frag} {W : WX}
theorem brk0_xs (rc : RdC K) (sp : Sp) (i : itI) (a : Addr) (h : inP 0 i) : Xs K W (t_TreeReader_items_in_brackets K W sp) (argsM N_TreeReader_items_in_brackets a (RC K) (rF i.1 i.2.1 i.2.2) []) (fnM a (RC K) (inR K 0 i)) := by
  obtain ⟨cs, p, m⟩ := i
  obtain ⟨hm, hp, hl⟩ := h
  replace hm : m + 0 = 200 := hm
  refine xs_seq (xs1_fldaug (x := (m : Int)) (y := 1) (z := (m : Int) + 1) rfl rc.c rc.n3 (by show 3 < 1000; decide) rfl ev_int r_add ?_)
  rw [put_m (i := (m : Int) + 1) (m' := m + 1) cs p m rfl]
  refine then_nx (xs_seq (xs1_if (b := true) (et1_val (ev_is (ev1_op (ev_nest rc rfl) ev_int od_gt) (congrArg D.bl (decide_eq_true (by omega))))) (fun _ => xs_raise ?_) fun z => nomatch z))
  rfl
def stp (r : Option (List Tr × List Nat)) (ys : List Tr) : Option (List Tr × List Nat) := r.map fun p => (ys ++ p.1, p.2)
theorem brk_xs (rc : RdC K) (r : Nat) (i : itI) (a : Addr) (h : inP (r + 1) i) : Xs K W (t_TreeReader_items_in_brackets K W (spIt K r)) (argsM N_TreeReader_items_in_brackets a (RC K) (rF i.1 i.2.1 i.2.2) []) (fnM a (RC K) (inR K (r + 1) i)) := by
  obtain ⟨cs, p, m⟩ := i
  obtain ⟨hm, hp, hl⟩ := h
  replace hm : m + (r + 1) = 200 := hm
  replace hp : p < cs.length := hp
  replace hl : cs.length ≤ 100000 := hl
  have hll : cs.length ≤ 1000000 := by omega
  have hs := sizeLine_eq
  have eB : (")" : Str) = sx [41] := by decide +kernel
  obtain ⟨L, hL⟩ : ∃ L, L = (cs.drop (p + 1)).length := ⟨_, rfl⟩
  have hR : inR K (r + 1) (cs, p, m) = toR K cs m ((lp (pIt r) (L + 1) (cs.drop (p + 1))).map fun p => (.tup p.1, p.2)) := by rw [hL]; rfl
  refine xs_seq (xs1_fldaug (x := (m : Int)) (y := 1) (z := (m : Int) + 1) rfl rc.c rc.n3 (by show 3 < 1000; decide) rfl ev_int r_add ?_)
  rw [put_m (i := (m : Int) + 1) (m' := m + 1) cs p m rfl]
  refine then_nx (xs_seq (xs1_if (b := false) (et1_val (ev_is (ev1_op (ev_nest rc rfl) ev_int od_gt) (congrArg D.bl (decide_eq_false (by omega))))) (fun z => nomatch z) fun _ => xs_next (then_nx ?_)))
  refine xs_seq (xs1_fldaug (x := (p : Int)) (y := 1) (z := (p : Int) + 1) rfl rc.c rc.n2 (by show 3 < 1000; decide) rfl ev_int r_add ?_)
  rw [put_p (i := (p : Int) + 1) (p' := p + 1) cs p (m + 1) rfl]
  refine then_nx (xs_seq (xs_new0 (then_nx (xs_seq ?_))))
  refine xs_while (fun k Δ' => ∃ (q f : Nat) (ys : List Tr), Δ' = [.ins a (RC K) (rF cs q (m + 1)), .own (ys.map dD)] ∧ q + k = cs.length ∧ ys.length ≤ q ∧ (cs.drop q).length < f ∧ lp (pIt r) (L + 1) (cs.drop (p + 1)) = stp (lp (pIt r) f (cs.drop q)) ys) (cs.length - (p + 1)) ⟨p + 1, L + 1, [], rfl, by omega, Nat.zero_le _, by omega, ?_⟩ ?_
  · unfold stp
    cases lp (pIt r) (L + 1) (cs.drop (p + 1)) with
    | none => rfl
    | some x => rfl
  rintro k Δ' ⟨q, f, ys, rfl, hk, hys, hf, hlp⟩
  obtain ⟨l, hcl⟩ : ∃ l, l = cs.drop q := ⟨_, rfl⟩
  have hlen : l.length = cs.length - q := by rw [hcl, List.length_drop]
  rw [← hcl] at hf hlp
  obtain ⟨f, rfl⟩ : ∃ g, f = g + 1 := ⟨f - 1, by omega⟩
  refine ⟨_, fun _ => False, et1_val (ev1_op (x := tD (l.take 1)) (ev_is (ev_cutX (b := q) (c := q + 1) (ev_text rc rfl) (ev_place rc rfl) (ev_add (ev_place rc rfl) ev_int) hll) (by rw [cutn, ← hcl])) (ev_c eB) od_neT), fun _ z => z.elim, fun e => ?_, fun e => ?_⟩
  · have hne : l.take 1 ≠ [41] := fun z => by rw [decide_eq_true z] at e; cases e
    have hlp2 : lp (pIt r) (f + 1) l = match pIt r l with
      | none => none
      | some (t, r') => (lp (pIt r) f r').map fun p => (t :: p.1, p.2) := by rw [lp, if_neg hne]; first | done | rfl
    refine xs_appS (R := fun _ _ => True) (X := fun B Δ' => itR K r (cs, q, m + 1) = .exc B ∧ Δ' = _) ⟨_, rfl⟩ (EvS.imp (evs_meth (j := ((cs, q, m + 1) : itI)) rfl rfl ea_nil ⟨by show m + 1 + r = 200; omega, by show q ≤ cs.length; omega, hl⟩) fun d Δ' x => ?_) fun B Δ' x => ?_
    · obtain ⟨fs, x, rfl⟩ := x
      replace x : toR K cs (m + 1) (pIt r (cs.drop q)) = .ret d fs := x
      rw [← hcl] at x
      cases hi : pIt r l with
      | none => rw [hi] at x; cases x
      | some y =>
        obtain ⟨t, r'⟩ := y
        rw [hi] at x hlp2
        cases x
        obtain ⟨j, j1, j2, j3, _⟩ := pIt_takes r l t r' (by omega) hi
        refine ⟨ys.map dD, rfl, by rw [List.length_map]; omega, trivial, k - j, by omega, q + j, f, ys ++ [t], ?_, by omega, by rw [List.length_append, List.length_singleton]; omega, ?_, ?_⟩
        · rw [List.map_append]
          have : cs.length - r'.length = q + j := by rw [j3, List.length_drop]; omega
          rw [this]
          rfl
        · rw [← List.drop_drop, ← hcl, List.length_drop]; omega
        · rw [hlp, hlp2, ← List.drop_drop, ← hcl, ← j3]
          unfold stp
          show Option.map _ (Option.map (fun p => (t :: p.1, p.2)) (lp (pIt r) f r')) = _
          cases lp (pIt r) f r' with
          | none => rfl
          | some z => simp
    · have x := x.1
      replace x : toR K cs (m + 1) (pIt r (cs.drop q)) = .exc B := x
      rw [← hcl] at x
      show inR K (r + 1) (cs, p, m) = _
      rw [hR, hlp, hlp2]
      cases hi : pIt r l with
      | none => rw [hi] at x; exact x
      | some y => rw [hi] at x; cases x
  · have heq : l.take 1 = [41] := Classical.byContradiction fun z => by rw [decide_eq_false z] at e; cases e
    have hlp2 : lp (pIt r) (f + 1) l = some ([], l.drop 1) := by rw [lp, if_pos heq]
    have e2 := congrArg List.length heq
    rw [List.length_take, List.length_singleton] at e2
    rw [hlp, hlp2] at hR
    refine then_nx (xs_seq (xs1_fldaug (x := (q : Int)) (y := 1) (z := (q : Int) + 1) rfl rc.c rc.n2 (by show 3 < 1000; decide) rfl ev_int r_add ?_))
    rw [put_p (i := (q : Int) + 1) (p' := q + 1) cs q (m + 1) rfl]
    refine then_nx (xs_seq (xs1_fldaug (x := ((m + 1 : Nat) : Int)) (y := 1) (z := ((m + 1 : Nat) : Int) - 1) rfl rc.c rc.n3 (by show 3 < 1000; decide) rfl ev_int r_sub ?_))
    rw [put_m (i := ((m + 1 : Nat) : Int) - 1) (m' := m) cs (q + 1) (m + 1) (by omega)]
    refine then_nx (xs1_retM (d := .tup (ys.map dD)) (ev_tup_own rfl) ⟨rF cs (q + 1) m, ?_, rfl⟩)
    rw [hR]
    show MRes.ret (.tup (dDs (ys ++ []))) (rF cs (cs.length - (l.drop 1).length) m) = _
    rw [List.append_nil, dDs_map, List.length_drop]
    congr 2
    omega
end
end K07


/-! k07: texts of trees: tree_text, _law_shown, tree_from_text, pieces, the reader's __init__. -/
namespace K07
open PySem PySem.Spec PyProof.Rows L2 TL Ts
section
variable [Tt] {K : PySem.W.Frag} {W : WX}
/-! ### the reader is made -/
def initPre (ds : List D) : Prop := ∃ cs, ds = [tD cs]
def initF (ds : List D) : List (Str × D) := match ds with
  | [d] => [("text", d), ("place", .int 0), ("nesting", .int 0)]
  | _ => []
theorem nt_back {x dx C : Addr} {vs : List (Str × V)} {Ha Hb : Hp} {a : Addr} (hb : Hb x = some (.ins C dx vs)) (kp : ∀ a o, a ≠ x → Ha a = some o → (∀ ps, o ≠ HO.tbl ps) → Hb a = some o) (nt : Nt Hb a) : Nt Ha a := fun o e => Classical.byContradiction fun n => by
  have np : ∀ ps, o ≠ HO.tbl ps := fun ps z => n ⟨ps, z⟩
  by_cases z : a = x
  · rw [z] at nt
    obtain ⟨ps, q⟩ := nt _ hb
    cases q
  · obtain ⟨ps, q⟩ := nt _ (kp a o z e np)
    exact np ps q
theorem init_ok {C : Addr} (c : Cls K C) (n1 : NoAttr K C "text") (n2 : NoAttr K C "place") (n3 : NoAttr K C "nesting") :
    ∀ vs H Q E, spNew K C initPre initF vs H Q E → t_TreeReader___init__ K (wDef E) { nx := fun _ H' => Q .non H', rt := Q } (L2.start N_TreeReader___init__ vs) H := by
  rintro vs H Q E ⟨G, x, dx, ws, ds, rfl, hx, nG, ex, tb, r, ⟨cs, rfl⟩, k0⟩
  cases r with
  | cons r1 r =>
    cases r
    rename_i w1
    have no : ∀ (i : Nat) (bs : Mu), ([.no, .dat (tD cs)] : En)[i]? ≠ some (Sl.mu bs) := fun i bs e => by
      match i with
      | 0 => cases e
      | 1 => cases e
      | i + 2 => cases e
    have rs : Rs K none H G H (L2.start N_TreeReader___init__ [V.ref x, w1]) [.no, .dat (tD cs)] := by
      refine ⟨ex, rfl, fun a e => (nomatch e), tb, fun i d e => ?_, fun i bs e => absurd e (no i bs), fun i j bs es p e => absurd e (no i bs), fun i e => ?_⟩
      · match i with
        | 0 => cases e
        | 1 => cases e; exact ⟨w1, rfl, r1⟩
        | i + 2 => cases e
      · match i with
        | 0 => cases e
        | 1 => cases e
        | i + 2 => cases e
    refine sfld_step (E := fun _ => E) (d := tD cs) rfl hx nG rs no (ev_var rfl) c n1 (by decide) fun G1 H1 u1 e1 nw1 rs1 nx1 kp1 hx1 ru1 => ?_
    refine sfld_step (E := fun _ => E) (d := .int 0) rfl hx1 nx1 rs1 no ev_int c n2 (by show 1 < 1000; decide) fun G2 H2 u2 e2 nw2 rs2 nx2 kp2 hx2 ru2 => ?_
    refine sfld_step (E := fun _ => E) (d := .int 0) rfl hx2 nx2 rs2 no ev_int c n3 (by show 2 < 1000; decide) fun G3 H3 u3 e3 nw3 rs3 nx3 kp3 hx3 ru3 => ?_
    refine k0 G3 H3 dx _ (e1.trans (e2.trans e3)) ?_ rs3.sub (fun a o ne e nt => kp3 a o ne (kp2 a o ne (kp1 a o ne e nt) nt) nt) rs3.tb nx3 hx3 ?_
    · intro a o e
      rcases nw3 a o e with e | e
      · rcases nw2 a o e with e | e
        · exact nw1 a o e
        · exact .inr (nt_back hx1 kp1 e)
      · exact .inr (nt_back hx1 kp1 (nt_back hx2 kp2 e))
    · exact .cons (ru1.ex (e2.trans e3)) (.cons (ru2.ex e3) (.cons ru3 .nil))
/-! ### texts of trees -/
def ttP : Nat → Tr → Prop
  | 0, _ => False
  | n + 1, t => dep t ≤ n ∧ Tok t ∧ (tt t).length ≤ 950000
abbrev spTt (K : PySem.W.Frag) (n : Nat) : Sp := spI K (fun t : Tr => [dD t]) (ttP n) (fun t => .ret (tD (tt t)))
theorem log_ok {i : Int} (h : i.natAbs < 10 ^ 30) : i.natAbs.log2 < 1920 := by
  rcases Nat.eq_zero_or_pos i.natAbs with e | e
  · rw [e]; decide
  · refine (Nat.log2_lt (by omega)).mpr ?_
    have : (10 : Nat) ^ 30 ≤ 2 ^ 1920 := Nat.le_trans (by decide : (10 : Nat) ^ 30 ≤ 2 ^ 100) (Nat.pow_le_pow_right (by decide) (by decide))
    omega
theorem fs3 (a b c : List Nat) : [sx a, sx b, sx c].foldl (· ++ ·) Str.empty = sx (a ++ b ++ c) := by
  have e : Str.empty = sx [] := rfl
  show Str.empty ++ sx a ++ sx b ++ sx c = _
  rw [e, sx_app, sx_app, sx_app]
  rfl
theorem intL_nat (n : Nat) : intL (n : Int) = numL n := by
  unfold intL
  rw [if_neg (by omega)]
  rfl
theorem join_fl (ls : List (List Nat)) : Txt.join "" (ls.map sx) = sx ls.flatten := by
  show Builtin.Str.glued _ _ = _
  rw [StrLaws.glued_eq_join]
  have e : ("" : Str) = sx [] := by decide +kernel
  rw [e]
  have key : ∀ ls : List (List Nat), Str.join (sx []) (ls.map sx) = sx ls.flatten := by
    intro ls
    induction ls with
    | nil => rfl
    | cons c r ih =>
      cases r with
      | nil =>
        show sx c = _
        rw [List.flatten_cons, List.flatten_nil, List.append_nil]
      | cons d r =>
        show sx c ++ sx [] ++ Str.join (sx []) ((d :: r).map sx) = _
        rw [ih, sx_app, sx_app, List.append_nil]
        rfl
  exact key ls
theorem sum_fl : ∀ ls : List (List Nat), ((ls.map sx).map (·.length)).sum = ls.flatten.length
  | [] => rfl
  | l :: r => by
    rw [List.map_cons, List.map_cons, List.sum_cons, sum_fl r, List.flatten_cons, List.length_append, sx_len]
/-- the promise of the parts -/
theorem ttP_mem {n : Nat} : ∀ {xs : List Tr}, deps xs ≤ n → Toks xs → (tts xs).length ≤ 950000 → ∀ x ∈ xs, ttP (n + 1) x
  | [], _, _, _, x, h => nomatch h
  | y :: r, hd, ht, hl, x, h => by
    have hd : max (dep y) (deps r) ≤ n := hd
    have hl : (tt y ++ tts r).length ≤ 950000 := hl
    rw [List.length_append] at hl
    rcases List.mem_cons.mp h with z | z
    · subst z; exact ⟨by omega, ht.1, by omega⟩
    · exact ttP_mem (by omega) ht.2 (by omega) x z
/-- ''.join([f(part) for part in tree]) -/
theorem ev_parts {n : Nat} {xs : List Tr} (h : ttP (n + 1) (.tup xs)) : Ev K (WE W) (tM1 (rJoin K) (tC (.str "")) (tLc (iSeq K (tVar 0)) (gName 1) tYes (tCallS (spTt K n) E00 (tCons (tVar 1) tNil)) [1])) [.dat (dD (.tup xs)), .no] (· = tD (tts xs)) fun _ => False := by
  obtain ⟨hd, ht, hl⟩ := h
  have hl : (40 :: (tts xs ++ [41])).length ≤ 950000 := hl
  rw [List.length_cons, List.length_append, List.length_singleton] at hl
  have hd : deps xs + 1 ≤ n := hd
  obtain ⟨n, rfl⟩ : ∃ j, n = j + 1 := ⟨n - 1, by omega⟩
  have hlen := tts_len xs
  have e0 : (("" : Str)).length = 0 := by decide +kernel
  have hm : (xs.map fun t => D.str (sx (tt t))) = ((xs.map tt).map sx).map D.str := by rw [List.map_map, List.map_map]; rfl
  refine ev_is (ev_join (a := "") (ys := (xs.map tt).map sx) ev_str (ev_is (ev_mapC (xs := xs) dD (fun t => tD (tt t)) (ew_inr (ew_inl (ew_tup ((ev_var (d := .tup (dDs xs)) rfl).imp fun d e => ⟨dDs xs, e, dDs_map xs⟩)))) (by omega) fun i t hi => ?_) (by rw [← hm])) (by rw [sum_fl, ← tts_map, e0]; omega)) (by rw [join_fl, ← tts_map])
  exact ⟨[1], _, fun _ h => h, tg_name, ev1_callI t (ea1_cons (ev_var rfl) ea_nil) (ttP_mem (by omega) ht (by omega) t (List.mem_of_getElem? hi)) rfl⟩
theorem c_n : ("n" : Str) = sx [110] := by decide +kernel
theorem c_t : ("t" : Str) = sx [116] := by decide +kernel
theorem c_f : ("f" : Str) = sx [102] := by decide +kernel
theorem c_co : (":" : Str) = sx [58] := by decide +kernel
theorem c_hs : ("#" : Str) = sx [35] := by decide +kernel
theorem c_sc : (";" : Str) = sx [59] := by decide +kernel
theorem c_op : ("(" : Str) = sx [40] := by decide +kernel
theorem c_cl : (")" : Str) = sx [41] := by decide +kernel
section
variable {E : L2.St → XK} {Δ : En} {X : Addr → Prop} {d : D} {b : Bool}
theorem et_isN (hi : Δ[0]? = some (.dat d)) (hb : d.isN = b) : Et K E (tTest (tOp rIsN (tVar 0) (tC .non))) Δ (· = b) X := et1_val (ev_is (ev1_op (ev_var hi) ev_non od_isN) (by rw [hb]))
theorem et_isB {c : Bool} (hi : Δ[0]? = some (.dat d)) (hb : d.isB c = b) : Et K E (tTest (tOp rIsV (tVar 0) (tC (.bl c)))) Δ (· = b) X := et1_val (ev_is (ev1_op (ev_var hi) ev_bl od_isV) (by rw [hb]))
theorem et_isC {n c : String} (hi : Δ[0]? = some (.dat d)) (hd : d.cls = some n) (hb : PySem.W.kitOne K (.type n) (.type c) = some b) : Et K E (tB (tCB (rIsi K) (tCons (tVar 0) (tCons (tC (.ty c)) tNil)))) Δ (· = b) X := et1_B (ev_isC (ev_var hi) hd hb)
end
theorem text_xs (n : Nat) (t : Tr) (h : ttP (n + 1) t) : Xs K W (t_tree_text K W (spTt K n)) (argsE N_tree_text [dD t]) (fnR (.ret (tD (tt t)))) := by
  have no : ∀ {b : Bool}, b = false → b = true → ∀ {P : Prop}, P := fun e z => by rw [e] at z; cases z
  cases t with
  | nul => exact xs_seq (xs1_if (b := true) (et_isN (d := .non) rfl rfl) (fun _ => xs1_ret (ev_c c_n) rfl) fun z => nomatch z)
  | bl c =>
    refine xs_seq (xs1_if (b := false) (et_isN (d := .bl c) rfl rfl) (fun z => nomatch z) fun _ => xs_next (then_nx ?_))
    cases c with
    | true => exact xs_seq (xs1_if (b := true) (et_isB (d := .bl true) rfl rfl) (fun _ => xs1_ret (ev_c c_t) rfl) fun z => nomatch z)
    | false =>
      refine xs_seq (xs1_if (b := false) (et_isB (d := .bl false) rfl rfl) (fun z => nomatch z) fun _ => xs_next (then_nx ?_))
      exact xs_seq (xs1_if (b := true) (et_isB (d := .bl false) rfl rfl) (fun _ => xs1_ret (ev_c c_f) rfl) fun z => nomatch z)
  | num i =>
    have hi : i.natAbs < 10 ^ 30 := h.2.1
    have hl := intL_len hi
    refine xs_seq (xs1_if (b := false) (et_isN (d := .int i) rfl rfl) (fun z => nomatch z) fun _ => xs_next (then_nx ?_))
    refine xs_seq (xs1_if (b := false) (et_isB (d := .int i) rfl rfl) (fun z => nomatch z) fun _ => xs_next (then_nx ?_))
    refine xs_seq (xs1_if (b := false) (et_isB (d := .int i) rfl rfl) (fun z => nomatch z) fun _ => xs_next (then_nx ?_))
    refine xs_seq (xs1_if (b := false) (et_isC (d := .int i) rfl rfl rfl) (fun z => nomatch z) fun _ => xs_next (then_nx ?_))
    refine xs_seq (xs1_if (b := false) (et_isC (d := .int i) rfl rfl rfl) (fun z => nomatch z) fun _ => xs_next (then_nx ?_))
    refine xs1_ret (d := tD (tt (.num i))) (ev_is (ev_fs (zs := ["#", Str.ofString (toString i), ";"]) (.cons .con (.cons (.num (ev_var rfl) (log_ok hi)) (.cons .con .nil))) ?_) ?_) rfl
    · rw [toS_int, c_hs, c_sc]
      simp only [List.map_cons, List.map_nil, List.sum_cons, List.sum_nil, sx_len, List.length_cons, List.length_nil]
      omega
    · rw [toS_int, c_hs, c_sc, fs3]
      rfl
  | txt cs =>
    have hl : cs.length ≤ 1000000 := h.2.1
    have hl2 : (numL cs.length ++ 58 :: cs).length ≤ 950000 := h.2.2
    rw [List.length_append, List.length_cons] at hl2
    refine xs_seq (xs1_if (b := false) (et_isN (d := tD cs) rfl rfl) (fun z => nomatch z) fun _ => xs_next (then_nx ?_))
    refine xs_seq (xs1_if (b := false) (et_isB (d := tD cs) rfl rfl) (fun z => nomatch z) fun _ => xs_next (then_nx ?_))
    refine xs_seq (xs1_if (b := false) (et_isB (d := tD cs) rfl rfl) (fun z => nomatch z) fun _ => xs_next (then_nx ?_))
    refine xs_seq (xs1_if (b := true) (et_isC (d := tD cs) rfl rfl rfl) (fun _ => ?_) fun z => nomatch z)
    refine xs1_ret (d := tD (tt (.txt cs))) (ev_is (ev_fs (zs := [Str.ofString (toString ((cs.length : Nat) : Int)), ":", sx cs]) (.cons (.num (ev_tlen (ev_var rfl) hl) (log_ok ?_)) (.cons .con (.cons (.txt (ev_var rfl) (by rw [sx_len]; exact hl)) .nil))) ?_) ?_) rfl
    · have : (1000000 : Nat) < 10 ^ 30 := by decide
      omega
    · rw [toS_int, intL_nat, c_co]
      simp only [List.map_cons, List.map_nil, List.sum_cons, List.sum_nil, sx_len, List.length_cons, List.length_nil]
      omega
    · rw [toS_int, intL_nat, c_co, fs3]
      show tD _ = tD (numL cs.length ++ 58 :: cs)
      rw [List.append_assoc]
      rfl
  | tup xs =>
    have hl : (40 :: (tts xs ++ [41])).length ≤ 950000 := h.2.2
    rw [List.length_cons, List.length_append, List.length_singleton] at hl
    refine xs_seq (xs1_if (b := false) (et_isN (d := .tup (dDs xs)) rfl rfl) (fun z => nomatch z) fun _ => xs_next (then_nx ?_))
    refine xs_seq (xs1_if (b := false) (et_isB (d := .tup (dDs xs)) rfl rfl) (fun z => nomatch z) fun _ => xs_next (then_nx ?_))
    refine xs_seq (xs1_if (b := false) (et_isB (d := .tup (dDs xs)) rfl rfl) (fun z => nomatch z) fun _ => xs_next (then_nx ?_))
    refine xs_seq (xs1_if (b := false) (et_isC (d := .tup (dDs xs)) rfl rfl rfl) (fun z => nomatch z) fun _ => xs_next (then_nx ?_))
    refine xs_seq (xs1_if (b := true) (et_isC (d := .tup (dDs xs)) rfl rfl rfl) (fun _ => ?_) fun z => nomatch z)
    exact xs1_ret (d := tD ([40] ++ tts xs ++ [41])) (ev_app (ev_app (ev_c c_op) (ev_parts h) (by simp only [List.length_singleton]; omega)) (ev_c c_cl) (by simp only [List.length_append, List.length_singleton]; omega)) rfl
theorem shown_xs (n : Nat) (t : Tr) (h : ttP (n + 1) t) : Xs K W (t__law_shown K W (spTt K n)) (argsE N__law_shown [dD t]) (fnR (.ret (tD (tt t)))) := by
  have h3 : ∀ {d : D} {a b c : Bool}, d.isN = a → d.isB true = b → d.isB false = c → Et K (WE W) (tOr (tTest (tOp rIsN (tVar 0) (tC .non))) (tOr (tTest (tOp rIsV (tVar 0) (tC (.bl true)))) (tTest (tOp rIsV (tVar 0) (tC (.bl false)))))) (argsE N__law_shown [d]) (· = (a || (b || c))) fun _ => False :=
    fun ha hb hc => et1_or (et_isN rfl ha) fun _ => et1_or (et_isB rfl hb) fun _ => et_isB rfl hc
  have v3 : ∀ {d : D} {a b : Bool}, d.isN = a → d.isB true = b → Ev K (WE W) (tIf (tTest (tOp rIsN (tVar 0) (tC .non))) (tC (.str "n")) (tIf (tTest (tOp rIsV (tVar 0) (tC (.bl true)))) (tC (.str "t")) (tC (.str "f")))) (argsE N__law_shown [d]) (· = if a = true then tD [110] else if b = true then tD [116] else tD [102]) fun _ => False :=
    fun ha hb => ev1_if (et_isN rfl ha) (fun _ => ev_c c_n) fun _ => ev1_if (et_isB rfl hb) (fun _ => ev_c c_t) fun _ => ev_c c_f
  cases t with
  | nul => exact xs_seq (xs1_if (b := true) (h3 (d := .non) rfl rfl rfl) (fun _ => xs1_ret (v3 (d := .non) rfl rfl) rfl) fun z => nomatch z)
  | bl c =>
    cases c with
    | true => exact xs_seq (xs1_if (b := true) (h3 (d := .bl true) rfl rfl rfl) (fun _ => xs1_ret (v3 (d := .bl true) rfl rfl) rfl) fun z => nomatch z)
    | false => exact xs_seq (xs1_if (b := true) (h3 (d := .bl false) rfl rfl rfl) (fun _ => xs1_ret (v3 (d := .bl false) rfl rfl) rfl) fun z => nomatch z)
  | num i =>
    have hi : i.natAbs < 10 ^ 30 := h.2.1
    have hl := intL_len hi
    refine xs_seq (xs1_if (b := false) (h3 (d := .int i) rfl rfl rfl) (fun z => nomatch z) fun _ => xs_next (then_nx ?_))
    refine xs_seq (xs1_if (b := false) (et_isC (d := .int i) rfl rfl rfl) (fun z => nomatch z) fun _ => xs_next (then_nx ?_))
    refine xs_seq (xs1_if (b := true) (et_isC (d := .int i) rfl rfl rfl) (fun _ => ?_) fun z => nomatch z)
    refine xs1_ret (d := tD ([35] ++ intL i ++ [59])) (ev_app (ev_app (ev_c c_hs) (ev_is (ev_strI (ev_var rfl) (log_ok hi)) (by rw [toS_int])) ?_) (ev_c c_sc) ?_) rfl
    · simp only [List.length_singleton]; omega
    · simp only [List.length_append, List.length_singleton]; omega
  | txt cs =>
    have hl : cs.length ≤ 1000000 := h.2.1
    have hl2 : (numL cs.length ++ 58 :: cs).length ≤ 950000 := h.2.2
    rw [List.length_append, List.length_cons] at hl2
    refine xs_seq (xs1_if (b := false) (h3 (d := tD cs) rfl rfl rfl) (fun z => nomatch z) fun _ => xs_next (then_nx ?_))
    refine xs_seq (xs1_if (b := true) (et_isC (d := tD cs) rfl rfl rfl) (fun _ => ?_) fun z => nomatch z)
    refine xs1_ret (d := tD (numL cs.length ++ [58] ++ cs)) (ev_app (ev_app (ev_is (ev_strI (ev_tlen (ev_var rfl) hl) (log_ok ?_)) (by rw [toS_int, intL_nat])) (ev_c c_co) ?_) (ev_var rfl) ?_) ?_
    · have : (1000000 : Nat) < 10 ^ 30 := by decide
      omega
    · simp only [List.length_singleton]; omega
    · simp only [List.length_append, List.length_singleton]; omega
    · show Res.ret (tD (numL cs.length ++ 58 :: cs)) = _
      rw [List.append_assoc]
      rfl
  | tup xs =>
    have hl : (40 :: (tts xs ++ [41])).length ≤ 950000 := h.2.2
    rw [List.length_cons, List.length_append, List.length_singleton] at hl
    refine xs_seq (xs1_if (b := false) (h3 (d := .tup (dDs xs)) rfl rfl rfl) (fun z => nomatch z) fun _ => xs_next (then_nx ?_))
    refine xs_seq (xs1_if (b := false) (et_isC (d := .tup (dDs xs)) rfl rfl rfl) (fun z => nomatch z) fun _ => xs_next (then_nx ?_))
    refine xs_seq (xs1_if (b := false) (et_isC (d := .tup (dDs xs)) rfl rfl rfl) (fun z => nomatch z) fun _ => xs_next (then_nx ?_))
    exact xs1_ret (d := tD ([40] ++ tts xs ++ [41])) (ev_app (ev_app (ev_c c_op) (ev_parts h) (by simp only [List.length_singleton]; omega)) (ev_c c_cl) (by simp only [List.length_append, List.length_singleton]; omega)) rfl
/-! ### tree_from_text -/
def frR (K : PySem.W.Frag) (cs : List Nat) : Res := match whole cs with
  | none => .exc (RF K)
  | some t => .ret (dD t)
abbrev spFr (K : PySem.W.Frag) : Sp := spI K (fun cs : List Nat => [tD cs]) (fun cs => cs.length ≤ 23750) (frR K)
theorem from_xs (rc : RdC K) (cs : List Nat) (h : cs.length ≤ 23750) : Xs K W (t_tree_from_text K W (spTt K 201) (spNew K (RC K) initPre initF) (spIt K 200)) (argsE N_tree_from_text [tD cs]) (fnR (frR K cs)) := by
  refine xs_seq (xs_makeM (ea1_cons (ev_var (d := tD cs) rfl) ea_nil) ⟨cs, rfl⟩ fun a => then_nx ?_)
  have hfr : frR K cs = match pIt 200 cs with
      | none => .exc (RF K)
      | some (t, r) => if r ≠ [] ∨ tt t ≠ cs then .exc (RF K) else .ret (dD t) := by
    unfold frR whole
    cases pIt 200 cs with
    | none => rfl
    | some x =>
      show (match (if x.2 ≠ [] ∨ tt x.1 ≠ cs then none else some x.1) with | none => Res.exc (RF K) | some t => .ret (dD t)) = _
      by_cases hb : x.2 ≠ [] ∨ tt x.1 ≠ cs
      · rw [if_pos hb]; exact (if_pos hb).symm
      · rw [if_neg hb]; exact (if_neg hb).symm
  refine xs_seq (xs_asgS (evs_meth (f0 := fun i : itI => rF i.1 i.2.1 i.2.2) (args := fun _ => []) (pre := itP 200) (res := itR K 200) (j := ((cs, 0, 0) : itI)) rfl rfl ea_nil ⟨rfl, Nat.zero_le _, by show cs.length ≤ 100000; omega⟩) (fun B Δ' x => ?_) fun d Δ' x => ?_)
  · have x : toR K cs 0 (pIt 200 cs) = .exc B := x.1
    show frR K cs = _
    rw [hfr]
    cases hp : pIt 200 cs with
    | none => rw [hp] at x; cases x; rfl
    | some y => rw [hp] at x; cases x
  · obtain ⟨fs, x, rfl⟩ := x
    have x : toR K cs 0 (pIt 200 cs) = .ret d fs := x
    cases hp : pIt 200 cs with
    | none => rw [hp] at x; cases x
    | some y =>
      obtain ⟨t, r⟩ := y
      rw [hp] at x hfr
      cases x
      obtain ⟨k, k1, k2, k3, k4, k5, k6⟩ := pIt_takes 200 cs t r (by omega) hp
      have hrl : r.length = cs.length - k := by rw [k3, List.length_drop]
      refine then_nx (xs_seq (xs1_if (b := decide (r ≠ [] ∨ tt t ≠ cs)) (et_is (et1_or (a := !decide (((cs.length - r.length : Nat) : Int) = (cs.length : Nat))) (b := !decide (tt t = cs)) (et1_val (ev1_op (ev_place rc rfl) (ev_tlen (ev_var (d := tD cs) rfl) (by omega)) od_neI)) fun _ => et1_val (ev1_op (x := tD (tt t)) (ev1_callI t (ea1_cons (ev_var rfl) ea_nil) ⟨k5, k6, by omega⟩ rfl) (ev_var (d := tD cs) rfl) od_neT)) ?_) (fun hb => xs_raise ?_) fun hb => xs_next (then_nx (xs1_ret (ev_var (d := dD t) rfl) ?_))))
      · rw [← decide_not, ← decide_not, ← Bool.decide_or]
        refine decide_eq_decide.mpr (or_congr ?_ Iff.rfl)
        rw [ne_eq, ← List.length_eq_zero_iff]
        omega
      · show frR K cs = _
        rw [hfr]
        simp only
        rw [if_pos (of_decide_eq_true hb)]
      · show frR K cs = _
        rw [hfr]
        simp only
        rw [if_neg (of_decide_eq_false hb)]
end
end K07


/-! k07: the law's trees; pieces. -/
namespace K07
open PySem PySem.Spec PyProof.Rows L2 TL Ts
def SG : List Nat := [110, 40, 51, 58, 59, 35, 41, 120, 32]
def Bd : Nat → Nat
  | 0 => 22
  | n + 1 => 4 * Bd n + 2
theorem Bd_ge : ∀ n, 22 ≤ Bd n
  | 0 => Nat.le_refl _
  | n + 1 => by
    have := Bd_ge n
    show 22 ≤ 4 * Bd n + 2
    omega
/-- what the law draws -/
structure Gd (n : Nat) (t : Tr) : Prop where
  dp : dep t ≤ n
  sm : Sm t
  ln : (tt t).length ≤ Bd n
  tx : ∀ cs, t = .txt cs → ∀ c ∈ cs, c ∈ SG
theorem gd_nul {n : Nat} : Gd n .nul := ⟨Nat.zero_le _, trivial, by have := Bd_ge n; show 1 ≤ _; omega, fun _ z => nomatch z⟩
theorem gd_bl {n : Nat} (b : Bool) : Gd n (.bl b) := ⟨Nat.zero_le _, trivial, by have := Bd_ge n; show 1 ≤ _; omega, fun _ z => nomatch z⟩
theorem gd_txt {n : Nat} {cs : List Nat} (h : ∀ c ∈ cs, c ∈ SG) (hl : cs.length ≤ 11) : Gd n (.txt cs) := by
  refine ⟨Nat.zero_le _, by show cs.length ≤ 1000000; omega, ?_, fun _ e => by cases e; exact h⟩
  have := Bd_ge n
  have h2 : (numL cs.length).length ≤ 2 := numL_len (by decide) (by omega)
  show (numL cs.length ++ 58 :: cs).length ≤ _
  rw [List.length_append, List.length_cons]
  omega
def Ni (i : Int) : Prop := i.natAbs < 10 ^ 20 ∧ (i < 0 → i.natAbs < 10 ^ 7)
theorem gd_num {n : Nat} {i : Int} (h : Ni i) : Gd n (.num i) := by
  have hb := Bd_ge n
  refine ⟨Nat.zero_le _, ?_, ?_, fun _ z => nomatch z⟩
  · show i.natAbs < 10 ^ 29
    have : (10 : Nat) ^ 20 < 10 ^ 29 := by decide
    have := h.1
    omega
  · show (35 :: (intL i ++ [59])).length ≤ _
    rw [List.length_cons, List.length_append, List.length_singleton]
    have : (intL i).length ≤ 20 := by
      unfold intL
      split
      · rename_i hi
        have := numL_len (n := i.natAbs) (k := 7) (by decide) (h.2 hi)
        rw [List.length_cons]
        omega
      · exact numL_len (n := i.natAbs) (k := 20) (by decide) h.1
    omega
theorem gds {n : Nat} : ∀ {xs : List Tr}, (∀ x ∈ xs, Gd n x) → deps xs ≤ n ∧ Sms xs ∧ (tts xs).length ≤ xs.length * Bd n
  | [], _ => ⟨Nat.zero_le _, trivial, Nat.zero_le _⟩
  | x :: r, h => by
    obtain ⟨h1, h2, h3⟩ := gds (xs := r) fun y hy => h y (.tail _ hy)
    have hx := h x (.head _)
    have := hx.dp
    refine ⟨?_, ⟨hx.sm, h2⟩, ?_⟩
    · show max (dep x) (deps r) ≤ n
      omega
    · show (tt x ++ tts r).length ≤ (r.length + 1) * Bd n
      rw [List.length_append, Nat.add_mul]
      have := hx.ln
      omega
theorem gd_tup {n : Nat} {xs : List Tr} (h : ∀ x ∈ xs, Gd n x) (hl : xs.length ≤ 4) : Gd (n + 1) (.tup xs) := by
  obtain ⟨h1, h2, h3⟩ := gds h
  refine ⟨by show deps xs + 1 ≤ n + 1; omega, h2, ?_, fun _ z => nomatch z⟩
  show (40 :: (tts xs ++ [41])).length ≤ 4 * Bd n + 2
  rw [List.length_cons, List.length_append, List.length_singleton]
  have : xs.length * Bd n ≤ 4 * Bd n := Nat.mul_le_mul_right _ hl
  omega
section
variable [Tt] {K : PySem.W.Frag} {W : WX}
def trPre (m : Nat) (ds : List D) : Prop := ∃ n : Nat, n < m ∧ ds = [.int (n : Int)]
def trPost (ds : List D) (r : Res) : Prop := ∃ n : Nat, ds = [.int (n : Int)] ∧ ∃ t, r = .ret (dD t) ∧ Gd n t
abbrev spTr (K : PySem.W.Frag) (m : Nat) : Sp := spQ K (trPre m) trPost
theorem c_sg : ("n(3:;#)x " : Str) = sx SG := by decide +kernel
abbrev NumP (d : D) : Prop := ∃ j : Int, d = .int j ∧ Ni j
theorem tree_xs (m : Nat) (ds : List D) (h : trPre (m + 1) ds) : Xs K W (t__law_tree K W (spRoll K) (spTr K m)) (argsQ N__law_tree ds) (fnP trPost ds) := by
  obtain ⟨n, hn, rfl⟩ := h
  refine xs_seq (xs_asg (R := fun d => ∃ i : Int, d = .int i ∧ 0 ≤ i ∧ i < (if 0 < n then 9 else 6)) (X := fun _ => False) ((ev_roll (n := if 0 < n then 9 else 6) rfl (ev_is (ev1_if (b := decide (0 < n)) (x := .int 9) (y := .int 6) (et1_val (ev_is (ev1_op (ev_var (d := .int (n : Int)) rfl) ev_int od_gt) (congrArg D.bl (decide_eq_decide.mpr (by omega))))) (fun _ => ev_int) fun _ => ev_int) (by by_cases c : 0 < n <;> simp [c])) (by split <;> decide) (by split <;> decide))) (fun _ z => z.elim) ?_)
  rintro d ⟨i, rfl, i0, i1⟩
  have fin : ∀ {t : Tr}, Gd n t → trPost [.int (n : Int)] (.ret (dD t)) := fun g => ⟨n, rfl, _, rfl, g⟩
  refine then_nx (xs_seq (xs1_if (b := decide (i < 3)) (et1_val (ev1_op (ev_var (d := .int i) rfl) ev_int od_lt)) (fun hb => ?_) fun hb => xs_next (then_nx ?_)))
  · have hb := of_decide_eq_true hb
    refine xs_ret (X := fun _ => False) (ev_pick (ds := [.non, .bl true, .bl false]) (n := 3) (ev1_lst (ea1_cons ev_non (ea1_cons ev_bl (ea1_cons ev_bl ea_nil)))) ((ev_var (d := .int i) rfl).imp fun d e => ⟨i, e, i0, hb⟩) rfl) (fun _ z => z.elim) fun d hd => ?_
    rcases List.mem_cons.mp hd with rfl | hd
    · exact fin gd_nul
    rcases List.mem_cons.mp hd with rfl | hd
    · exact fin (gd_bl true)
    rw [List.mem_singleton.mp hd]
    exact fin (gd_bl false)
  have hb := of_decide_eq_false hb
  refine xs_seq (xs1_if (b := decide (i = 3)) (et1_val (ev1_op (ev_var (d := .int i) rfl) ev_int od_eqI)) (fun _ => ?_) fun hb2 => xs_next (then_nx ?_))
  · have pw : ∀ {k : Nat} {z : Int} {E : L2.St → XK} {Δ : En} {X : Addr → Prop}, CPow 10 (k : Int) → (10 : Int) ^ k = z → Ev K E (tOp rPowG (tC (.int 10)) (tC (.int (k : Int)))) Δ (· = .int z) X := fun hc hz => ev_is (ev1_op ev_int ev_int (od_pow hc)) (by rw [← hz]; rfl)
    refine xs_ret (X := fun _ => False) (ev_pickR (P := NumP) (n := 3) (ev_lst (Rs := fun ds => (∀ e ∈ ds, NumP e) ∧ ds.length = 3) (ea_cons (R := NumP) (Rs := fun ds => (∀ e ∈ ds, NumP e) ∧ ds.length = 2) ?_ (fun _ _ => ea_cons (R := NumP) (Rs := fun ds => (∀ e ∈ ds, NumP e) ∧ ds.length = 1) ?_ (fun _ _ => ea_cons (R := NumP) (Rs := (· = [])) ?_ (fun _ _ => ea_nil) fun d ds h1 e => ?_) fun d ds h1 ⟨h2, h3⟩ => ?_) fun d ds h1 ⟨h2, h3⟩ => ?_) (fun ds ⟨_, e⟩ => by rw [e]; exact szl) fun ds ⟨h1, h2⟩ => ⟨ds, rfl, h1, by rw [h2]; rfl⟩) (ev_roll rfl ev_int)) (fun _ z => z.elim) fun d ⟨j, e, hj⟩ => by rw [e]; exact fin (gd_num hj)
    · exact ev_op (Rb := (· = .int 4)) (ev_roll (n := 9) rfl ev_int) ev_int fun x y ⟨j, e, h0, h1⟩ e2 => by
        subst e; subst e2
        exact OpD.imp od_sub fun d e => ⟨j - 4, e, by omega, fun _ => by omega⟩
    · exact (ev_roll (n := 100000000000000000000) rfl (pw (k := 20) ⟨by decide, by decide, by decide⟩ (by decide))).imp fun d ⟨j, e, h0, h1⟩ => ⟨j, e, by omega, fun _ => by omega⟩
    · exact ev_op (Ra := (· = .int 0)) ev_int (ev_roll (n := 1000000) rfl (pw (k := 6) ⟨by decide, by decide, by decide⟩ (by decide))) fun x y e2 ⟨j, e, h0, h1⟩ => by
        subst e; subst e2
        exact OpD.imp od_sub fun d e => ⟨0 - j, e, by omega, fun _ => by omega⟩
    · subst e
      exact ⟨fun x hx => by rw [List.mem_singleton.mp hx]; exact h1, rfl⟩
    · refine ⟨fun x hx => ?_, by rw [List.length_cons, h3]⟩
      rcases List.mem_cons.mp hx with z | z
      · rw [z]; exact h1
      · exact h2 x z
    · refine ⟨fun x hx => ?_, by rw [List.length_cons, h3]⟩
      rcases List.mem_cons.mp hx with z | z
      · rw [z]; exact h1
      · exact h2 x z
  have hb2 := of_decide_eq_false hb2
  refine xs_seq (xs1_if (b := decide (i < 6)) (et1_val (ev1_op (ev_var (d := .int i) rfl) ev_int od_lt)) (fun _ => ?_) fun hb3 => xs_next (then_nx ?_))
  · exact xs_ret (X := fun _ => False) (ev_drawn (src := SG) (N := 11) rfl (by decide) c_sg rfl (by decide) (by decide) (by decide) ((ev_roll (n := 12) rfl ev_int).imp fun d ⟨m, e, h0, h1⟩ => ⟨m, e, h0, by omega⟩)) (fun _ z => z.elim) fun d ⟨cs, e, h1, h2⟩ => by rw [e]; exact fin (gd_txt h1 h2)
  have hb3 := of_decide_eq_false hb3
  have hn0 : 0 < n := Classical.byContradiction fun z => by
    rw [if_neg z] at i1
    omega
  obtain ⟨n, rfl⟩ : ∃ j, n = j + 1 := ⟨n - 1, by omega⟩
  refine xs_ret (R := fun d => ∃ xs : List Tr, d = .tup (xs.map dD) ∧ (∀ x ∈ xs, Gd n x) ∧ xs.length ≤ 4) (X := fun _ => False) (ev_cb (Rs := fun ds => ∃ xs : List Tr, ds = [.lst (xs.map dD)] ∧ (∀ x ∈ xs, Gd n x) ∧ xs.length ≤ 4) (ea_cons (R := fun d => ∃ xs : List Tr, d = .lst (xs.map dD) ∧ (∀ x ∈ xs, Gd n x) ∧ xs.length ≤ 4) (Rs := (· = [])) ?_ (fun _ _ => ea_nil) fun d ds ⟨xs, e, h1⟩ e2 => ⟨xs, by rw [e, e2], h1⟩) fun ds ⟨xs, e, h1⟩ => by subst e; exact CbD.imp cd_tupL fun d e => ⟨xs, e, h1⟩) (fun _ z => z.elim) fun d ⟨xs, e, h1, h2⟩ => ?_
  · refine ev_lc (Rw := fun items => ∃ m : Nat, m ≤ 4 ∧ items = rngD 0 1 m) (ew_rng1 ((ev_roll (n := 5) rfl ev_int).imp fun d ⟨m, e, h0, h1⟩ => ⟨m, e, by omega, by omega, m.toNat, by omega, rfl⟩)) (fun items j acc => ∃ xs : List Tr, acc = xs.map dD ∧ (∀ x ∈ xs, Gd n x) ∧ xs.length = j) (fun _ _ => ⟨[], rfl, (fun _ h => nomatch h), rfl⟩) (fun items j d acc ei hi ha => ?_) fun items acc ei ha => ?_
    · obtain ⟨m', hm, rfl⟩ := ei
      obtain ⟨hj, rfl⟩ := rngD_of hi
      obtain ⟨xs, rfl, hc, rfl⟩ := ha
      refine ⟨[3], _, (fun _ h => h), tg_name, et_yes.imp fun b eb => ⟨fun _ => ?_, fun z => by rw [eb] at z; cases z⟩⟩
      refine (ev_callq (R := fun d => ∃ t, d = dD t ∧ Gd n t) (Rs := (· = [.int (n : Int)])) (pre := trPre m) (post := trPost) rfl (ea1_cons (ev_is (ev1_op (ev_var (d := .int ((n + 1 : Nat) : Int)) rfl) ev_int od_sub) (congrArg D.int (by omega))) ea_nil) (fun ds e => ⟨n, by omega, e⟩) (fun ds d e ⟨n', e2, t, e3, g⟩ => ?_) fun ds C e ⟨n', e2, t, e3, g⟩ => nomatch e3).imp fun d ⟨t, e, g⟩ => ⟨szlt (by rw [List.length_map]; omega), xs ++ [t], by rw [List.map_append, e]; rfl, fun x hx => ?_, by rw [List.length_append]; rfl⟩
      · subst e
        cases e3
        have : n' = n := by
          injection e2 with e2 _
          injection e2 with e2
          omega
        subst this
        exact ⟨t, rfl, g⟩
      · rcases List.mem_append.mp hx with z | z
        · exact hc x z
        · rw [List.mem_singleton.mp z]; exact g
    · obtain ⟨m', hm, rfl⟩ := ei
      obtain ⟨xs, rfl, hc, he⟩ := ha
      exact ⟨xs, rfl, hc, by rw [he, rngD_len]; exact hm⟩
  · rw [e, ← dDs_map]
    exact fin (t := .tup xs) (gd_tup h1 h2)
end
end K07


/-! k07: pieces; data of trees looked at by ==; text * n; text[:n]. -/
namespace K07
open PySem PySem.Spec PyProof.Rows L2 TL Ts
/-! ### pieces -/
def pn (cs : List Nat) (s : Nat) : Nat := (cs.length + s - 1) / s
def pcs (cs : List Nat) (s : Nat) : List (List Nat) := (List.range (pn cs s)).map fun i => (cs.drop (i * s)).take s
def pcsE (cs : List Nat) (s : Nat) : List (List Nat) := if cs = [] then [[]] else pcs cs s
theorem pn_lt {cs : List Nat} {s i : Nat} (hs : 1 ≤ s) (h : i < pn cs s) : i * s < cs.length := by
  have h1 : (i + 1) * s ≤ cs.length + s - 1 := Nat.le_trans (Nat.mul_le_mul_right s h) (Nat.div_mul_le_self _ _)
  rw [Nat.add_mul, Nat.one_mul] at h1
  omega
theorem pn_ge {cs : List Nat} {s : Nat} (hs : 1 ≤ s) : cs.length ≤ pn cs s * s := by
  have h := Nat.lt_div_mul_add (a := cs.length + s - 1) (b := s) hs
  unfold pn
  omega
theorem pn_le {cs : List Nat} {s : Nat} (hs : 1 ≤ s) : pn cs s ≤ cs.length := by
  rcases Nat.eq_zero_or_pos (pn cs s) with h | h
  · omega
  · have := pn_lt (cs := cs) (i := pn cs s - 1) hs (by omega)
    have h2 : (pn cs s - 1) * 1 ≤ (pn cs s - 1) * s := Nat.mul_le_mul_left _ hs
    omega
theorem pcs_nil {cs : List Nat} {s : Nat} (hs : 1 ≤ s) : pcs cs s = [] ↔ cs = [] := by
  unfold pcs
  rw [List.map_eq_nil_iff, List.range_eq_nil]
  constructor
  · intro h
    have := pn_ge (cs := cs) hs
    rw [h] at this
    exact List.length_eq_zero_iff.mp (by omega)
  · intro h
    have := pn_le (cs := cs) hs
    rw [h] at this ⊢
    simpa using this
theorem pcs_part {cs : List Nat} {s : Nat} (hs : 1 ≤ s) : ∀ p ∈ pcs cs s, 0 < p.length ∧ p.length ≤ s := fun p hp => by
  obtain ⟨i, hi, rfl⟩ := List.mem_map.mp hp
  have := pn_lt hs (List.mem_range.mp hi)
  rw [List.length_take, List.length_drop]
  omega
theorem pcs_fl {cs : List Nat} {s : Nat} (hs : 1 ≤ s) : (pcs cs s).flatten = cs := by
  have key : ∀ n, ((List.range n).map fun i => (cs.drop (i * s)).take s).flatten = cs.take (n * s) := by
    intro n
    induction n with
    | zero => simp
    | succ n ih =>
      rw [List.range_succ, List.map_append, List.flatten_append, ih, List.map_singleton, List.flatten_singleton, Nat.add_mul, Nat.one_mul, List.take_add]
  unfold pcs
  rw [key, List.take_of_length_le (pn_ge hs)]
theorem rgc {n s : Nat} (h0 : 1 ≤ s) (h1 : s ≤ 100) (hn : n ≤ 1000000) : RgC 0 (n : Int) (s : Int) ((n + s - 1) / s) := by
  have e : Builtin.Range.rangeSize 0 (n : Int) (s : Int) = (((n + s - 1) / s : Nat) : Int) := by
    unfold Builtin.Range.rangeSize
    rw [if_pos (by omega)]
    by_cases c : n = 0
    · subst c
      rw [if_neg (by omega), Nat.div_eq_of_lt (by omega)]
      rfl
    · rw [if_pos (by omega)]
      have e1 : ((n : Int) - 0 - 1) = ((n - 1 : Nat) : Int) := by omega
      have e2 : n + s - 1 = (n - 1) + s := by omega
      rw [e1, e2, Nat.add_div_right _ h0, Int.natCast_add, Int.natCast_ediv]
      rfl
  have hle : (n + s - 1) / s ≤ n + s - 1 := Nat.div_le_self _ _
  refine ⟨by omega, by omega, ?_, e⟩
  unfold Builtin.Range.small
  rw [e]
  clear e
  generalize (n + s - 1) / s = q at hle
  simp only [Builtin.Range.rangeFitsLong, Bool.and_eq_true, Bool.or_eq_true, decide_eq_true_eq, beq_iff_eq]
  refine ⟨⟨⟨⟨by omega, by omega⟩, by omega, by omega⟩, by omega, by omega⟩, .inr ?_⟩
  rw [if_pos (by omega)]
  simp only [Bool.and_eq_true, decide_eq_true_eq]
  omega
/-! ### data of texts and trees -/
theorem wide_txts : ∀ ls : List (List Nat), (D.lst (ls.map tD)).wide = true
  | [] => rfl
  | l :: r => by
    have := wide_txts r
    exact this
theorem eqv_lst0 : ∀ ls : List D, PyData.eqv (D.lst ls).py (D.lst []).py = decide (ls = [])
  | [] => rfl
  | l :: r => by simp [D.py, D.pys, PyData.eqv, PyData.eqvAll]
mutual
theorem wide_tr : ∀ t : Tr, (dD t).pure = true ∧ (dD t).py.plain = true
  | .nul => ⟨rfl, rfl⟩
  | .bl _ => ⟨rfl, rfl⟩
  | .num _ => ⟨rfl, rfl⟩
  | .txt _ => ⟨rfl, rfl⟩
  | .tup xs => wide_trs xs
theorem wide_trs : ∀ xs : List Tr, D.pures (dDs xs) = true ∧ PyData.plainAll (D.pys (dDs xs)) = true
  | [] => ⟨rfl, rfl⟩
  | x :: r => by
    obtain ⟨a, b⟩ := wide_tr x
    obtain ⟨c, d⟩ := wide_trs r
    constructor
    · show ((dD x).pure && D.pures (dDs r)) = true
      rw [a, c]; rfl
    · show ((dD x).py.plain && PyData.plainAll (D.pys (dDs r))) = true
      rw [b, d]; rfl
end
theorem wide_dD (t : Tr) : (dD t).wide = true := by
  obtain ⟨a, b⟩ := wide_tr t
  unfold D.wide
  rw [a, b]; rfl
mutual
theorem depth_tr : ∀ t : Tr, (dD t).py.depth ≤ dep t + 1
  | .nul => Nat.zero_le _
  | .bl _ => Nat.zero_le _
  | .num _ => Nat.zero_le _
  | .txt _ => Nat.zero_le _
  | .tup xs => by
    have := depth_trs xs
    show PyData.depthAll (D.pys (dDs xs)) + 1 ≤ deps xs + 1 + 1
    omega
theorem depth_trs : ∀ xs : List Tr, PyData.depthAll (D.pys (dDs xs)) ≤ deps xs + 1
  | [] => Nat.zero_le _
  | x :: r => by
    have h1 := depth_tr x
    have h2 := depth_trs r
    show max (dD x).py.depth (PyData.depthAll (D.pys (dDs r))) ≤ max (dep x) (deps r) + 1
    omega
end
def isTx (z : Str) : Tr → Bool
  | .txt cs => decide (sx cs = z)
  | _ => false
theorem eqv_tx (z : Str) (t : Tr) : PyData.eqv (dD t).py (D.str z).py = isTx z t := by
  cases t with
  | txt cs =>
    show (sx cs == z) = decide (sx cs = z)
    rfl
  | _ => rfl
section
variable [Tt] {K : PySem.W.Frag} {E : L2.St → XK} {Δ : En} {X : Addr → Prop} {te tf : TE}
theorem od_neTx {t : Tr} {z : Str} : OpD K (rNeH K) (dD t) (.str z) (· = .bl (!isTx z t)) := by
  have h := od_neP (K := K) (wide_dD t) (show (D.str z).wide = true from rfl) (Nat.le_trans (Nat.min_le_right _ _) (by show 0 ≤ 64; decide))
  rw [eqv_tx] at h
  exact h
theorem od_eqTx {t : Tr} {z : Str} : OpD K (rEqH K) (dD t) (.str z) (· = .bl (isTx z t)) := by
  have h := od_eqP (K := K) (wide_dD t) (show (D.str z).wide = true from rfl) (Nat.le_trans (Nat.min_le_right _ _) (by show 0 ≤ 64; decide))
  rw [eqv_tx] at h
  exact h
theorem od_ne0 {ls : List (List Nat)} : OpD K (rNeH K) (.lst (ls.map tD)) (.lst []) (· = .bl (!decide (ls = []))) := by
  have h := od_neP (K := K) (wide_txts ls) (show (D.lst []).wide = true from rfl) (Nat.le_trans (Nat.min_le_right _ _) (by decide))
  rw [eqv_lst0] at h
  have e : decide (ls.map tD = []) = decide (ls = []) := by
    rw [decide_eq_decide, List.map_eq_nil_iff]
  rw [e] at h
  exact h
/-- 'c' * n -/
theorem od_rep {c n : Nat} (hn : n ≤ 1000) : OpD K (rMulH K) (tD [c]) (.int (n : Int)) (· = tD (List.replicate n c)) := fun G H v w Q e r1 r2 k => by
  rw [r1.str_inv, r2.int_inv]
  have hs := sizeLine_eq
  refine .inr ⟨sx [c], n, rfl, rfl, ⟨?_, fun h1 h2 => ?_, fun h1 h2 => ?_⟩, ?_⟩
  · rw [Bool.or_eq_false_iff]
    exact ⟨decide_eq_false (by omega), decide_eq_false (by omega)⟩
  · show ¬ (((1 : Nat) : Int) > (2 ^ 63 - 1) / (n : Int))
    have : (1 : Int) ≤ (2 ^ 63 - 1) / (n : Int) := Int.le_ediv_of_mul_le (by omega) (by omega)
    omega
  · show decide (1 * (n : Int).toNat > sizeLine) = false
    exact decide_eq_false (by omega)
  · have e2 : Txt.mul (sx [c]) n = sx (List.replicate n c) := by
      rw [← sx_of (Txt.mul (sx [c]) n)]
      show sx (Txt.mul ⟨#[c]⟩ n).cps.toList = _
      rw [mul_one_list]
      rfl
    rw [e2]
    exact ret1 e (.str _) k
theorem cut_to {cs : List Nat} {a : Nat} : cutS (sx cs) none (some (a : Int)) = sx (cs.take a) := by
  unfold cutS
  rw [sx_len, HT.sIx_nat, HT.sIx_none, sx_cps]
  show sx _ = sx _
  congr 1
  rw [List.drop_zero, Nat.sub_zero]
  by_cases h : a ≤ cs.length
  · rw [Nat.min_eq_left h]
  · rw [Nat.min_eq_right (by omega), List.take_of_length_le (Nat.le_refl _), List.take_of_length_le (by omega)]
end
section
variable [Tt] {K : PySem.W.Frag} {W : WX}
abbrev pcI := List Nat × Nat
def pcP (i : pcI) : Prop := 1 ≤ i.2 ∧ i.2 ≤ 100 ∧ i.1.length ≤ 100000
abbrev spPc (K : PySem.W.Frag) : Sp := spI K (fun i : pcI => [tD i.1, .int (i.2 : Int)]) pcP (fun i => .ret (.lst ((pcsE i.1 i.2).map tD)))
theorem pieces_xs (i : pcI) (h : pcP i) : Xs K W (t_pieces K W) (argsE N_pieces [tD i.1, .int (i.2 : Int)]) (fnR (.ret (.lst ((pcsE i.1 i.2).map tD)))) := by
  obtain ⟨cs, s⟩ := i
  obtain ⟨h0, h1, hl⟩ := h
  replace h0 : 1 ≤ s := h0
  replace h1 : s ≤ 100 := h1
  replace hl : cs.length ≤ 100000 := hl
  have hll : cs.length ≤ 1000000 := by omega
  have hpn := pn_le (cs := cs) h0
  refine xs_seq (xs1_asg (d := .lst ((pcs cs s).map tD)) (ev_is (ev_mapC (xs := List.range (pn cs s)) (fun i => .int (0 + (i : Nat) * (s : Int))) (fun i => tD ((cs.drop (i * s)).take s)) (ew_rng3 (a := 0) (b := (cs.length : Int)) (c := (s : Int)) ev_int (ev_tlen (ev_var (d := tD cs) rfl) hll) (ev_var rfl) (rgc h0 h1 hll)) (by rw [List.length_range]; omega) fun i a hi => ⟨[3], _, (fun _ h => h), tg_name, ?_⟩) ?_) (then_nx ?_))
  · have ep : (0 + (a : Int) * (s : Int)) = ((a * s : Nat) : Int) := by rw [Int.zero_add, Int.natCast_mul]
    refine ev_is (ev_cutX (cs := cs) (b := a * s) (c := a * s + s) (ev_var (d := tD cs) rfl) (ev_var (by rw [ep]; rfl)) (ev_add (ev_var (by rw [ep]; rfl)) (ev_var rfl)) hll) (by rw [cutn])
  · unfold pcs
    rw [List.map_map]
    rfl
  · refine xs1_ret (ev1_if (b := !decide (pcs cs s = [])) (et1_val (ev1_op (ev_var (d := .lst ((pcs cs s).map tD)) rfl) (ev1_lst ea_nil) od_ne0)) (fun _ => ev_var (d := .lst ((pcs cs s).map tD)) rfl) fun _ => ev1_lst (ea1_cons (ev_c (cs := []) (by decide +kernel)) ea_nil)) ?_
    show Res.ret (.lst ((pcsE cs s).map tD)) = _
    unfold pcsE
    by_cases c : cs = []
    · rw [if_pos c, if_neg]
      · rfl
      · rw [decide_eq_true ((pcs_nil h0).mpr c)]
        exact Bool.false_ne_true
    · rw [if_neg c, if_pos]
      rw [decide_eq_false fun z => c ((pcs_nil h0).mp z)]
      rfl
end
end K07


/-! k07: the law's loop and end. -/
namespace K07
open PySem PySem.Spec PyProof.Rows L2 TL Ts
mutual
theorem tok_sm : ∀ t : Tr, Sm t → Tok t
  | .nul, _ => trivial
  | .bl _, _ => trivial
  | .num i, h => by
    have h : i.natAbs < 10 ^ 29 := h
    have : (10 : Nat) ^ 29 < 10 ^ 30 := by decide
    show i.natAbs < 10 ^ 30
    omega
  | .txt cs, h => h
  | .tup xs, h => toks_sm xs h
theorem toks_sm : ∀ xs : List Tr, Sms xs → Toks xs
  | [], _ => trivial
  | x :: r, h => ⟨tok_sm x h.1, toks_sm r h.2⟩
end
theorem Bd_mono {m n : Nat} (h : m ≤ n) : Bd m ≤ Bd n := by
  induction h with
  | refl => exact Nat.le_refl _
  | step _ ih =>
    refine Nat.le_trans ih ?_
    show Bd _ ≤ 4 * Bd _ + 2
    omega
def RFS : Str := "RecordFault"
theorem rfs_no : isTx "RecordFault" (.txt []) = false := by decide +kernel
theorem rfs_signs : ("RecordFault" : Str) = sx [82, 101, 99, 111, 114, 100, 70, 97, 117, 108, 116] := by decide +kernel
theorem gd_no {n : Nat} {t : Tr} (h : Gd n t) : isTx "RecordFault" t = false := by
  cases t with
  | txt cs =>
    refine decide_eq_false fun z => ?_
    rw [rfs_signs] at z
    have := sx_inj z
    have h82 := h.tx cs rfl 82 (by rw [this]; exact .head _)
    revert h82
    decide
  | _ => rfl
section
variable [Tt] {K : PySem.W.Frag} {W : WX}
abbrev bT (K : PySem.W.Frag) (W : WX) : TS := b_law K W (spRoll K) (spRounds K) (spTt K 201) (spTr K 6) (spPc K) (spFr K) (spTt K 201)
abbrev rT (K : PySem.W.Frag) (W : WX) : TS := r_law K W (spRoll K) (spRounds K) (spTt K 201) (spTr K 6) (spPc K) (spFr K) (spTt K 201)
/-- what _law_told(lambda: tree_from_text(..)) gives -/
def toldOf : Option Tr → D
  | none => .str "RecordFault"
  | some t => dD t
theorem ev_toldF {Δ : En} {X : Addr → Prop} {E : L2.St → XK} {t : XK → TE} {cs : List Nat} (hx : PySem.W.exmOne K (.ref (RF K)) (.ref (RF K)) = some true) (hi : Δ[1]? = some Sl.dice) (hl : cs.length ≤ 23750)
    (h : ∀ EL, Ev K (fun _ => EL) (t EL) Δ (· = tD cs) fun C => C = RF K ∧ whole cs = none) : Ev K E (LamX.tLam Tt.tb (LamX.TTold K (RF K) "RecordFault") (fun EL => tCallS (spFr K) (WE (wDef EL)) (tCons (t EL) tNil))) Δ (· = toldOf (whole cs)) X := by
  refine (ev_told (i := 1) (R := (· = toldOf (whole cs))) (Xb := fun C => C = RF K ∧ whole cs = none) hi (fun EL => ev_callI cs (ea1_cons (h EL) ea_nil) hl (fun d e => ?_) fun C e => ?_) fun C hC => by rw [hC.1]; exact hx).imp fun d e => ?_
  · unfold frR at e
    cases hw : whole cs with
    | none => rw [hw] at e; cases e
    | some t => rw [hw] at e; cases e; rfl
  · unfold frR at e
    cases hw : whole cs with
    | none => rw [hw] at e; cases e; exact ⟨rfl, rfl⟩
    | some t => rw [hw] at e; cases e
  · rcases e with e | ⟨⟨C, hC⟩, e⟩
    · exact e
    · rw [e, hC.2]; rfl
/-- told against 'RecordFault' -/
def isRF (o : Option Tr) : Bool := match o with
  | none => true
  | some t => isTx "RecordFault" t
theorem od_neRF {o : Option Tr} : OpD K (rNeH K) (toldOf o) (.str "RecordFault") (· = .bl (!isRF o)) := by
  cases o with
  | none =>
    have h : OpD K (rNeH K) (.str "RecordFault") (.str "RecordFault") (· = .bl (!decide (("RecordFault" : Str) = "RecordFault"))) := od_inl od_neX
    rw [decide_eq_true rfl] at h
    exact h
  | some t => exact od_neTx
theorem od_eqRF {o : Option Tr} : OpD K (rEqH K) (toldOf o) (.str "RecordFault") (· = .bl (isRF o)) := by
  cases o with
  | none =>
    have h : OpD K (rEqH K) (.str "RecordFault") (.str "RecordFault") (· = .bl (decide (("RecordFault" : Str) = "RecordFault"))) := od_inl od_eqX
    rw [decide_eq_true rfl] at h
    exact h
  | some t => exact od_eqTx
theorem nest_no : ∀ n, isTx "RecordFault" (nest n) = false
  | 0 => rfl
  | n + 1 => rfl
theorem whole_P {cs : List Nat} {t : Tr} (h : whole cs = some t) (hl : cs.length ≤ 23750) : ttP 201 t := by
  have ht := whole_of h
  unfold whole at h
  cases hp : pIt 200 cs with
  | none => rw [hp] at h; cases h
  | some y =>
    obtain ⟨t', r⟩ := y
    rw [hp] at h
    simp only at h
    split at h
    · cases h
    · cases h
      obtain ⟨k, k1, k2, k3, k4, k5, k6⟩ := pIt_takes 200 cs t r (by omega) hp
      exact ⟨k5, k6, by omega⟩
theorem c_s2 : ("()n:#;07-" : Str) = sx [40, 41, 110, 58, 35, 59, 48, 55, 45] := by decide +kernel
theorem c_em : ("" : Str) = sx [] := by decide +kernel
theorem body_xs (hx : PySem.W.exmOne K (.ref (RF K)) (.ref (RF K)) = some true) : Xs K W (bT K W) (Sl.no :: Sl.dice :: List.replicate 10 Sl.no) (lPost 10) := by
  refine xs_seq (xs_asg (R := fun d => ∃ n t, n ≤ 5 ∧ d = dD t ∧ Gd n t) (X := fun _ => False) (ev_callq (Rs := fun ds => ∃ i : Int, ds = [.int i] ∧ 0 ≤ i ∧ i < 6) rfl (ea_cons (R := fun d => ∃ i : Int, d = .int i ∧ 0 ≤ i ∧ i < 6) (Rs := (· = [])) (ev_roll (n := 6) rfl ev_int) (fun _ _ => ea_nil) fun d ds ⟨i, e, h⟩ e2 => ⟨i, by rw [e, e2], h⟩) (fun ds ⟨i, e, h0, h1⟩ => ⟨i.toNat, by omega, by rw [e, Int.toNat_of_nonneg h0]⟩) (fun ds d ⟨i, e, h0, h1⟩ ⟨n, e2, t, e3, g⟩ => ?_) fun ds C _ ⟨n, e2, t, e3, g⟩ => nomatch e3) (fun _ z => z.elim) ?_)
  · subst e
    injection e2 with e2 _
    injection e2 with e2
    cases e3
    exact ⟨n, t, by omega, rfl, g⟩
  rintro d ⟨n, t, hn, rfl, g⟩
  have gl : (tt t).length ≤ 23210 := Nat.le_trans g.ln (Nat.le_trans (Bd_mono hn) (by decide))
  have gP : ttP 201 t := ⟨by have := g.dp; show dep t ≤ 200; omega, tok_sm t g.sm, by omega⟩
  have gw : whole (tt t) = some t := whole_tt g.sm (by have := g.dp; omega)
  have gd : dep t ≤ 5 := by have := g.dp; omega
  have gN : tt t ≠ [] := by
    obtain ⟨c, r, e, _⟩ := tt_head t
    rw [e]; exact fun z => nomatch z
  have gT := gd_no g
  obtain ⟨L, hL⟩ : ∃ L, L = (tt t).length := ⟨_, rfl⟩
  refine then_nx (xs_seq (xs1_asg (d := tD (tt t)) (ev1_callI t (ea1_cons (ev_var rfl) ea_nil) gP rfl) (then_nx ?_)))
  refine xs_seq (xs1_if (b := false) (et_is (et1_or (a := false) (b := false) (et1_val (ev_is (ev1_op (ev_var (d := tD (tt t)) rfl) (ev1_callI t (ea1_cons (ev_var rfl) ea_nil) gP rfl) od_neT) (by simp))) fun _ => et1_val (ev1_op (x := dD t) (ev1_callI (tt t) (ea1_cons (ev_var rfl) ea_nil) (show (tt t).length ≤ 23750 by omega) (by unfold frR; rw [gw])) (ev_var (d := dD t) rfl) (od_nePself (wide_dD t) (by have := depth_tr t; omega) rfl))) rfl) (fun z => nomatch z) fun _ => xs_next (then_nx ?_))
  refine xs_seq (xs_asg (R := fun d => ∃ p : Nat, d = .int (p : Int) ∧ p ≤ L) (X := fun _ => False) ((ev_roll (n := (L : Int) + 1) rfl (ev_is (ev1_op (ev_tlen (ev_var (d := tD (tt t)) rfl) (by omega)) ev_int od_add) (by rw [hL])) (by omega) (by omega)).imp fun d ⟨i, e, h0, h1⟩ => ⟨i.toNat, by rw [e, Int.toNat_of_nonneg h0], by omega⟩) (fun _ z => z.elim) ?_)
  rintro d ⟨p, rfl, hp⟩
  refine then_nx (xs_seq (xs_asg (R := fun d => ∃ cs, d = tD cs ∧ cs.length ≤ L + 1) (X := fun _ => False) ?_ (fun _ z => z.elim) ?_))
  · refine ev_op (Ra := fun d => ∃ cs, d = tD cs ∧ cs.length ≤ p + 1) (Rb := fun d => ∃ cs, d = tD cs ∧ cs.length ≤ L - p) (ev_op (Ra := (· = tD ((tt t).take p))) (Rb := fun d => ∃ cs, d = tD cs ∧ cs.length ≤ 1) (ev_is (ev1_sl (ev_var (d := tD (tt t)) rfl) eo_none (eo1_some (ev_var (d := .int (p : Int)) rfl)) (sd_str (by rw [sx_len]; exact szl (by omega)))) (by rw [cut_to])) (ev_op (Ra := fun d => ∃ c, c ∈ [40, 41, 110, 58, 35, 59, 48, 55, 45] ∧ d = tD [c]) (ev_pickT (n := 9) (ev_c c_s2) (ev_roll rfl ev_int) rfl (by decide)) (ev_roll (n := 2) rfl ev_int) fun x y ⟨c, _, e⟩ ⟨i, e2, h0, h1⟩ => ?_) fun x y e ⟨cs, e2, h⟩ => ?_) (ev_sl (Ra := (· = tD (tt t))) (Rl := fun o => ∃ q : Nat, o = some (q : Int) ∧ p ≤ q) (Rh := (· = none)) (ev_var rfl) (eo_some ((ev_op (Ra := (· = .int (p : Int))) (ev_var rfl) (ev_roll (n := 2) rfl ev_int) fun x y e ⟨i, e2, h0, h1⟩ => ?_) )) eo_none fun x l u e ⟨q, e2, hq⟩ e3 => ?_) fun x y ⟨cs, e, h⟩ ⟨cs2, e2, h2⟩ => ?_
    · subst e; subst e2
      obtain ⟨k, rfl⟩ : ∃ k : Nat, i = (k : Int) := ⟨i.toNat, (Int.toNat_of_nonneg h0).symm⟩
      exact OpD.imp (od_rep (by omega)) fun d e => ⟨_, e, by rw [List.length_replicate]; omega⟩
    · subst e; subst e2
      refine OpD.imp (od_catS (by rw [sx_len, sx_len]; exact szl (by rw [List.length_take]; omega))) fun d e => ⟨(tt t).take p ++ cs, by rw [e, sx_app], by rw [List.length_append, List.length_take]; omega⟩
    · subst e; subst e2
      exact OpD.imp od_add fun d e => ⟨(p : Int) + i, e, p + i.toNat, by congr 1; omega, by omega⟩
    · subst e; subst e2; subst e3
      have := sd_str (K := K) (z := sx (tt t)) (lo := some (q : Int)) (hi := none) (by rw [sx_len]; exact szl (by omega))
      rw [cut_from] at this
      exact fun G H v Q e r k => this G H v Q e r fun w d G' H' g rv e' => k w d G' H' g rv ⟨(tt t).drop q, e', by rw [List.length_drop]; omega⟩
    · subst e; subst e2
      refine OpD.imp (od_catS (by rw [sx_len, sx_len]; exact szl (by omega))) fun d e => ⟨cs ++ cs2, by rw [e, sx_app], by rw [List.length_append]; omega⟩
  rintro d ⟨cs, rfl, hcl⟩
  refine then_nx (xs_seq (xs1_asg (d := toldOf (whole cs)) (ev_toldF hx rfl (by omega) fun EL => ev_var rfl) (then_nx ?_)))
  refine xs_seq (xs1_if (b := false) (et_is (et1_or (a := false) (b := false) ?_ fun _ => ?_) rfl) (fun z => nomatch z) fun _ => xs_next (then_nx ?_))
  · refine et_is (et1_and (a := !isRF (whole cs)) (b := false) (et1_val (ev1_op (ev_var (d := toldOf (whole cs)) rfl) ev_str od_neRF)) fun h => ?_) (Bool.and_false _)
    cases hw : whole cs with
    | none => rw [hw] at h; cases h
    | some t' =>
      have ht := whole_of hw
      exact et1_val (ev_is (ev1_op (ev1_callI t' (ea1_cons (ev_var (d := dD t') rfl) ea_nil) (whole_P hw (by omega)) rfl) (ev_var (d := tD cs) rfl) od_neT) (by rw [ht]; simp))
  · refine et_is (et1_and (a := decide (cs = tt t)) (b := false) (et1_val (ev1_op (ev_var (d := tD cs) rfl) (ev_var (d := tD (tt t)) rfl) od_eqT)) fun h => ?_) (Bool.and_false _)
    have h := of_decide_eq_true h
    refine et1_val (ev_is (ev1_op (ev_var (d := toldOf (whole cs)) rfl) ev_str od_eqRF) ?_)
    rw [h, gw]
    exact congrArg D.bl gT
  refine xs_seq (xs_asg (R := fun d => ∃ s : Nat, d = .int (s : Int) ∧ 1 ≤ s ∧ s ≤ 9) (X := fun _ => False) (ev_op (Ra := (· = .int 1)) ev_int (ev_roll (n := 9) rfl ev_int) fun x y e ⟨i, e2, h0, h1⟩ => by
    subst e; subst e2
    exact OpD.imp od_add fun d e => ⟨1 + i.toNat, by rw [e]; congr 1; omega, by omega, by omega⟩) (fun _ z => z.elim) ?_)
  rintro d ⟨s, rfl, hs1, hs9⟩
  have hpe : pcsE (tt t) s = pcs (tt t) s := if_neg gN
  refine then_nx (xs_seq (xs1_asg (d := .lst ((pcs (tt t) s).map tD)) (ev1_callI (tt t, s) (ea1_cons (ev_var rfl) (ea1_cons (ev_var rfl) ea_nil)) ⟨hs1, by show s ≤ 100; omega, by show (tt t).length ≤ 100000; omega⟩ (by rw [← hpe])) (then_nx ?_)))
  have hpl : (pcs (tt t) s).length = pn (tt t) s := by unfold pcs; rw [List.length_map, List.length_range]
  have hpn := pn_le (cs := tt t) hs1
  have hm : (pcs (tt t) s).map tD = ((pcs (tt t) s).map sx).map D.str := by rw [List.map_map]; rfl
  have e0 : (("" : Str)).length = 0 := by decide +kernel
  refine xs_seq (xs1_if (b := false) (et_is (et1_or (a := false) (b := false) (et1_val (ev_is (ev1_op (x := tD (tt t)) (ev_is (ev_join (a := "") (ys := (pcs (tt t) s).map sx) ev_str (ev_is (ev_var (d := .lst ((pcs (tt t) s).map tD)) rfl) (by rw [hm])) (by rw [sum_fl, pcs_fl hs1, e0]; omega)) (by rw [join_fl, pcs_fl hs1])) (ev_var (d := tD (tt t)) rfl) od_neT) (by simp))) fun _ => et_is (et1_or (a := false) (b := false) (et1_val (ev_is (ev1_op (x := .lst (([] : List (List Nat)).map tD)) (ev_lc (Rw := (· = (pcs (tt t) s).map tD)) (ew_inl (ew_list ((ev_var (d := .lst ((pcs (tt t) s).map tD)) rfl).imp fun d e => ⟨_, e, rfl⟩))) (fun its i acc => acc = []) (fun _ _ => rfl) (fun its i d acc ei hi ea => ?_) fun its acc ei ea => by rw [ea]; rfl) (ev1_lst ea_nil) od_ne0) (by simp))) fun _ => et1_val (ev_is (ev1_op (x := .int ((pcs (tt t) s).length : Nat)) (ev_is (ev_lenL (ev_var (d := .lst ((pcs (tt t) s).map tD)) rfl)) (by rw [List.length_map])) (ev1_op (ev1_op (ev1_op (ev_tlen (ev_var (d := tD (tt t)) rfl) (by omega)) (ev_var (d := .int (s : Int)) rfl) od_add) ev_int od_sub) (ev_var (d := .int (s : Int)) rfl) (od_div (cdivw ?_ ?_))) od_neI) ?_)) rfl) rfl) (fun z => nomatch z) fun _ => xs_next (then_nx ?_))
  · subst ei
    obtain ⟨pp, hpp, rfl⟩ := of_map_get hi
    obtain ⟨q1, q2⟩ := pcs_part hs1 pp (List.mem_of_getElem? hpp)
    refine ⟨[11], _, (fun _ h => h), tg_name, (et1_not (b := true) (et1_val (ev_chain (b := true) (y := .int (pp.length : Nat)) (z := .int (s : Int)) ev_int (ev_tlen (ev_var (d := tD pp) rfl) (by omega)) (OpD.imp od_lt fun d e => by rw [e]; exact congrArg D.bl (decide_eq_true (by omega))) (fun _ => ev_var rfl) (fun _ => OpD.imp od_le fun d e => by rw [e]; exact congrArg D.bl (decide_eq_true (by omega))) fun z => nomatch z))).imp fun b eb => ⟨fun z => (by rw [eb] at z; cases z), fun _ => ea⟩⟩
  · omega
  · omega
  · congr 1
    rw [hpl]
    have : ((pn (tt t) s : Nat) : Int) = ((tt t).length + (s : Int) - 1) / (s : Int) := by
      unfold pn
      rw [Int.natCast_ediv]
      congr 1
      omega
    rw [this]
    simp
  refine xs_seq (xs_asg (R := fun d => ∃ m : Nat, d = .int (m : Int) ∧ m < 300) (X := fun _ => False) ((ev_roll (n := 300) rfl ev_int).imp fun d ⟨i, e, h0, h1⟩ => ⟨i.toNat, by rw [e, Int.toNat_of_nonneg h0], by omega⟩) (fun _ z => z.elim) ?_)
  rintro d ⟨m, rfl, hm3⟩
  refine then_nx (xs_seq (xs1_asg (d := toldOf (whole (List.replicate m 40 ++ List.replicate m 41))) (ev_toldF hx rfl (by rw [List.length_append, List.length_replicate, List.length_replicate]; omega) fun EL => ev_app (ev1_op (ev_c c_op) (ev_var rfl) (od_rep (by omega))) (ev1_op (ev_c c_cl) (ev_var rfl) (od_rep (by omega))) (by rw [List.length_replicate, List.length_replicate]; omega)) (then_nx ?_)))
  rw [brackets]
  obtain ⟨o, ho⟩ : ∃ o, o = if m = 0 ∨ 200 < m then none else some (nest (m - 1)) := ⟨_, rfl⟩
  rw [← ho]
  have hrf : isRF o = decide (m = 0 ∨ 200 < m) := by
    rw [ho]
    by_cases c : m = 0 ∨ 200 < m
    · rw [if_pos c, decide_eq_true c]; rfl
    · rw [if_neg c, decide_eq_false c]; exact nest_no _
  refine xs1_if (b := false) (et_is (et1_or (a := false) (b := false) (et_is (et1_and (a := decide ((m : Int) = 0)) (b := !isRF o) (et1_val (ev1_op (ev_var (d := .int (m : Int)) rfl) ev_int od_eqI)) fun _ => et1_val (ev1_op (ev_var (d := toldOf o) rfl) ev_str od_neRF)) ?_) fun _ => et_is (et1_and (a := decide ((0 : Int) < m)) (b := isRF o != decide ((200 : Int) < m)) (et1_val (ev1_op (ev_var (d := .int (m : Int)) rfl) ev_int od_gt)) fun _ => et1_val (ev1_op (ev1_op (ev_var (d := toldOf o) rfl) ev_str od_eqRF) (ev1_op (ev_var (d := .int (m : Int)) rfl) ev_int od_gt) od_neB)) ?_) rfl) (fun z => nomatch z) fun _ => xs_next ⟨rfl, rfl⟩
  · rw [hrf]
    by_cases c : m = 0
    · subst c; rfl
    · rw [decide_eq_false (by omega)]; rfl
  · rw [hrf]
    by_cases c : m = 0
    · subst c; rfl
    · have : decide (m = 0 ∨ 200 < m) = decide ((200 : Int) < m) := decide_eq_decide.mpr (by omega)
      rw [this]
      simp
end
end K07


/-! k07: the law's end. -/
namespace K07
open PySem PySem.Spec PyProof.Rows L2 TL Ts
theorem ones31 : (whole ([40, 35] ++ List.replicate 31 49 ++ [59, 41])).isNone = true := by decide +kernel
def T19 : Tr := .tup [.num 1111111111111111111]
theorem tt19 : tt T19 = [40, 35] ++ List.replicate 19 49 ++ [59, 41] := by decide +kernel
theorem ones19 : whole ([40, 35] ++ List.replicate 19 49 ++ [59, 41]) = some T19 := by
  rw [← tt19]
  exact whole_tt ⟨by show (1111111111111111111 : Int).natAbs < 10 ^ 29; decide, trivial⟩ (by decide)
theorem val19 : valI (List.replicate 19 49) = 1111111111111111111 := by decide +kernel
def T1a : Tr := .tup [.num 1, .txt [97]]
theorem tt1a : tt T1a = [40, 35, 49, 59, 49, 58, 97, 41] := by decide +kernel
section
variable [Tt] {K : PySem.W.Frag} {W : WX}
theorem ev_ones {E : L2.St → XK} {Δ : En} {X : Addr → Prop} {n : Nat} (hn : n ≤ 1000) : Ev K E (tOp (rAddG K) (tOp (rAddG K) (tC (.str "(#")) (tOp (rMulH K) (tC (.str "1")) (tC (.int (n : Int))))) (tC (.str ";)"))) Δ (· = tD ([40, 35] ++ List.replicate n 49 ++ [59, 41])) X :=
  ev_app (ev_app (ev_c (by decide +kernel)) (ev1_op (ev_c (cs := [49]) (by decide +kernel)) ev_int (od_rep hn)) (by rw [List.length_replicate]; show 2 + n ≤ _; omega)) (ev_c (by decide +kernel)) (by rw [List.length_append, List.length_replicate]; show 2 + n + 2 ≤ _; omega)
theorem end_law (hx : PySem.W.exmOne K (.ref (RF K)) (.ref (RF K)) = some true) : Xs K W (rT K W) (Sl.no :: Sl.dice :: List.replicate 10 Sl.no) (· = .rt (.bl true)) := by
  have h31 : whole ([40, 35] ++ List.replicate 31 49 ++ [59, 41]) = none := Option.isNone_iff_eq_none.mp ones31
  refine xs_seq (xs1_if (b := false) (et_is (et1_or (a := false) (b := false) (et1_val (ev_is (ev1_op (ev_toldF (cs := [40, 35] ++ List.replicate 31 49 ++ [59, 41]) hx rfl (by decide) fun EL => ev_ones (n := 31) (by decide)) ev_str od_neRF) (by rw [h31]; rfl))) fun _ => et1_val (ev1_op (x := dD T19) (y := dD T19) (ev1_callI ([40, 35] ++ List.replicate 19 49 ++ [59, 41]) (ea1_cons (ev_ones (n := 19) (by decide)) ea_nil) (by decide) (by unfold frR; rw [ones19])) (ev1_tup (ea1_cons (ev_intT (a := sx (List.replicate 19 49)) (ev1_op (ev_c (cs := [49]) (by decide +kernel)) ev_int (od_rep (n := 19) (by decide))) ?_ (by rw [sx_len, List.length_replicate]; decide)) ea_nil)) (od_neSelf (by decide +kernel) rfl))) rfl) (fun z => nomatch z) fun _ => xs_next (then_nx ?_))
  · rw [int_of (by decide) (by decide) (by decide) (by decide) (by decide), val19]
  · refine xs1_ret (d := .bl true) (ev_is (ev1_andV (a := true) (b := true) (ev_is (ev1_op (x := .lst ((pcsE [] 3).map tD)) (y := .lst ([[]].map tD)) (ev1_callI (([], 3) : pcI) (ea1_cons (ev_c c_em) (ea1_cons ev_int ea_nil)) ⟨by decide, by decide, by decide⟩ rfl) (ev1_lst (ea1_cons (ev_c c_em) ea_nil)) (od_eqSelf (by decide +kernel) rfl)) rfl) fun _ => ?_) rfl) rfl
    exact ev_is (ev1_op (x := tD (tt T1a)) (ev1_callI T1a (ea1_cons (ev1_tup (ea1_cons ev_int (ea1_cons (ev_c (cs := [97]) (by decide +kernel)) ea_nil))) ea_nil) ⟨by decide, ⟨by show (1 : Int).natAbs < 10 ^ 30; decide, by show [97].length ≤ 1000000; decide, trivial⟩, by rw [tt1a]; decide⟩ rfl) (ev_c (cs := [40, 35, 49, 59, 49, 58, 97, 41]) (by decide +kernel)) od_eqT) (by rw [tt1a]; rfl)
end
end K07


namespace K07
open PySem PySem.Spec PyProof.Rows L2 Ts
abbrev FD (K : PySem.W.Frag) (x q : Str) (st : Stmt) (f : Addr) (fd : FuncData) : Prop := FunD K x q (defArgs st) (defBody st) (defScope st) [] [] f fd
section
variable [Tt] {P : Program} {w : World} {K : PySem.W.Frag} {mg : Str → Option Value} {base : Heap} {f : Addr} {fd : FuncData}
theorem cal_tree_text (t : Txt K mg) (F : FD K "tree_text" "tree_text" s_tree_text f fd) (M : mg "tree_text" = some (.ref f)) : ∀ n, Cal P w K mg base n "tree_text" (spTt K n)
  | 0 => cal_of (ps := ["tree"]) ⟨fun _ _ _ _ ⟨_, _, _, _, _, z, _⟩ => z.elim, fun _ _ _ _ _ _ _ _ _ _ _ _ _ ⟨_, _, _, _, _, z, _⟩ => z.elim⟩ M F.kp (F.bindsN fun _ _ _ _ _ _ us hl => match us, hl with | [_], _ => rfl)
  | n + 1 => cal_of (fn_I (t := fun W => t_tree_text K W (spTt K n)) F sc_tree_text (fun _ => rfl) (fun cdv A outer s H E hr => der_tree_text t (cal_tree_text t F M n) (Nat.le_refl _) hr) (fun W i h => text_xs n i h)) M F.kp (F.bindsN fun _ _ _ _ _ _ us hl => match us, hl with | [_], _ => rfl)
theorem new_TreeReader (t : Txt K mg) (rc : RdC K) (Mk_ : Mk K (He.ga K "TreeReader") f) (F : FD K "__init__" "TreeReader.__init__" s_TreeReader___init__ f fd) (M : mg "TreeReader" = some (.ref (He.ga K "TreeReader"))) : New P w K mg base 1 "TreeReader" (He.ga K "TreeReader") (spNew K (RC K) initPre initF) :=
  ⟨⟨f, fd, _, Mk_, fn_new F sc_TreeReader___init__ (fun ds ⟨_, e⟩ => by rw [e]; rfl) (fun cdv A outer s H E hr => der_TreeReader___init__ t hr) (init_ok rc.c rc.n1 rc.n2 rc.n3), M, F.bindsN fun _ _ _ _ _ _ us hl => match us, hl with | [_, _], _ => rfl⟩⟩
theorem mth_TreeReader_digits_to (t : Txt K mg) (rc : RdC K) (Me : Meth K (He.ga K "TreeReader") "digits_to" f) (F : FD K "digits_to" "TreeReader.digits_to" s_TreeReader_digits_to f fd) : MthF P w K mg base 1 (He.ga K "TreeReader") "digits_to" (spDg K) :=
  ⟨⟨_, fd, _, rc.c, Me, fnF_M (t := fun W => t_TreeReader_digits_to K W) F sc_TreeReader_digits_to (fun _ => rfl) (fun cdv A outer s H E hr => der_TreeReader_digits_to t hr) (fun W i a h => digits_xs rc i a h), F.bindsN fun _ _ _ _ _ _ us hl => match us, hl with | [_, _], _ => rfl⟩⟩
theorem mth_TreeReader_item (t : Txt K mg) (rc : RdC K) (D : MthF P w K mg base 1 (He.ga K "TreeReader") "digits_to" (spDg K)) {f2 : Addr} {fd2 : FuncData} (Me : Meth K (He.ga K "TreeReader") "item" f) (F : FD K "item" "TreeReader.item" s_TreeReader_item f fd) (Me2 : Meth K (He.ga K "TreeReader") "items_in_brackets" f2) (F2 : FD K "items_in_brackets" "TreeReader.items_in_brackets" s_TreeReader_items_in_brackets f2 fd2) :
    ∀ r, MthF P w K mg base (2 * r + 1) (He.ga K "TreeReader") "items_in_brackets" (spIn K r) ∧ MthF P w K mg base (2 * r + 2) (He.ga K "TreeReader") "item" (spIt K r) := by
  have it : ∀ r, MthF P w K mg base (2 * r + 1) (He.ga K "TreeReader") "items_in_brackets" (spIn K r) → MthF P w K mg base (2 * r + 2) (He.ga K "TreeReader") "item" (spIt K r) := fun r b =>
    ⟨⟨_, fd, _, rc.c, Me, fnF_M (k := 2 * r + 1) (t := fun W => t_TreeReader_item K W (spDg K) (spIn K r)) F sc_TreeReader_item (fun _ => rfl) (fun cdv A outer s H E hr => der_TreeReader_item t D (by omega) b (Nat.le_refl _) hr) (fun W i a h => item_xs rc r i a h), F.bindsN fun _ _ _ _ _ _ us hl => match us, hl with | [_], _ => rfl⟩⟩
  intro r
  induction r with
  | zero =>
    have tr : MthF P w K mg base 0 (He.ga K "TreeReader") "item" (spIt0 K) := ⟨⟨_, fd, ["self"], rc.c, Me, ⟨fun _ _ _ _ ⟨_, _, _, _, _, _, _, _, _, _, _, _, _, z, _⟩ => z.elim, fun _ _ _ _ _ _ _ _ _ _ _ _ _ ⟨_, _, _, _, _, _, _, _, _, _, _, _, _, z, _⟩ => z.elim⟩, F.bindsN fun _ _ _ _ _ _ us hl => match us, hl with | [_], _ => rfl⟩⟩
    have b : MthF P w K mg base 1 (He.ga K "TreeReader") "items_in_brackets" (spIn K 0) := ⟨⟨_, fd2, _, rc.c, Me2, fnF_M (k := 0) (t := fun W => t_TreeReader_items_in_brackets K W (spIt0 K)) F2 sc_TreeReader_items_in_brackets (fun _ => rfl) (fun cdv A outer s H E hr => der_TreeReader_items_in_brackets t tr (Nat.le_refl _) hr) (fun W i a h => brk0_xs rc _ i a h), F2.bindsN fun _ _ _ _ _ _ us hl => match us, hl with | [_], _ => rfl⟩⟩
    exact ⟨b, it 0 b⟩
  | succ r ih =>
    have b : MthF P w K mg base (2 * (r + 1) + 1) (He.ga K "TreeReader") "items_in_brackets" (spIn K (r + 1)) := ⟨⟨_, fd2, _, rc.c, Me2, fnF_M (k := 2 * r + 2) (t := fun W => t_TreeReader_items_in_brackets K W (spIt K r)) F2 sc_TreeReader_items_in_brackets (fun _ => rfl) (fun cdv A outer s H E hr => der_TreeReader_items_in_brackets t ih.2 (Nat.le_refl _) hr) (fun W i a h => brk_xs rc r i a h), F2.bindsN fun _ _ _ _ _ _ us hl => match us, hl with | [_], _ => rfl⟩⟩
    exact ⟨b, it (r + 1) b⟩
theorem cal_pieces (t : Txt K mg) (F : FD K "pieces" "pieces" s_pieces f fd) (M : mg "pieces" = some (.ref f)) : Cal P w K mg base 1 "pieces" (spPc K) :=
  cal_of (fn_I (t := fun W => t_pieces K W) F sc_pieces (fun _ => rfl) (fun cdv A outer s H E hr => der_pieces t hr) (fun W i h => pieces_xs i h)) M F.kp (F.bindsN fun _ _ _ _ _ _ us hl => match us, hl with | [_, _], _ => rfl)
theorem cal__law_dice (t : Txt K mg) (F : FD K "_law_dice" "_law_dice" s__law_dice f fd) (M : mg "_law_dice" = some (.ref f)) : Cal P w K mg base 1 "_law_dice" (spDice K) :=
  cal_of (fn_D F sc__law_dice (fun ds ⟨_, e⟩ => by rw [e]; rfl) (fun cdv A outer s H E hr => der__law_dice t hr) (fun W ds h => dice_xs h)) M F.kp (F.bindsN fun _ _ _ _ _ _ us hl => match us, hl with | [_], _ => rfl)
theorem cal__law_roll (t : Txt K mg) (F : FD K "_law_roll" "_law_roll" s__law_roll f fd) (M : mg "_law_roll" = some (.ref f)) : Cal P w K mg base 1 "_law_roll" (spRoll K) :=
  cal_of (fn_Q (t := fun W => t__law_roll K W) F sc__law_roll (fun ds ⟨_, e, _⟩ => by rw [e]; rfl) (fun cdv A outer s H E hr => der__law_roll t hr) (fun W ds h => roll_xs h)) M F.kp (F.bindsN fun _ _ _ _ _ _ us hl => match us, hl with | [_, _], _ => rfl)
theorem cal__law_shown (t : Txt K mg) (F : FD K "_law_shown" "_law_shown" s__law_shown f fd) (M : mg "_law_shown" = some (.ref f)) : ∀ n, Cal P w K mg base n "_law_shown" (spTt K n)
  | 0 => cal_of (ps := ["tree"]) ⟨fun _ _ _ _ ⟨_, _, _, _, _, z, _⟩ => z.elim, fun _ _ _ _ _ _ _ _ _ _ _ _ _ ⟨_, _, _, _, _, z, _⟩ => z.elim⟩ M F.kp (F.bindsN fun _ _ _ _ _ _ us hl => match us, hl with | [_], _ => rfl)
  | n + 1 => cal_of (fn_I (t := fun W => t__law_shown K W (spTt K n)) F sc__law_shown (fun _ => rfl) (fun cdv A outer s H E hr => der__law_shown t (cal__law_shown t F M n) (Nat.le_refl _) hr) (fun W i h => shown_xs n i h)) M F.kp (F.bindsN fun _ _ _ _ _ _ us hl => match us, hl with | [_], _ => rfl)
theorem cal__law_rounds (t : Txt K mg) (c__law_dice : Cal P w K mg base 1 "_law_dice" (spDice K)) (F : FD K "_law_rounds" "_law_rounds" s__law_rounds f fd) (M : mg "_law_rounds" = some (.ref f)) : Cal P w K mg base 2 "_law_rounds" (spRounds K) :=
  cal_of (fn_H (t := fun W => t__law_rounds K W (spDice K)) F sc__law_rounds (fun vs H Q E ⟨_, _, e, _⟩ => by rw [e]; rfl) (fun cdv A outer s H E e hr => der__law_rounds t c__law_dice (Nat.le_refl _) hr) (fun W vs H Q E h => rounds_pure (W := W) h)) M F.kp (F.bindsN fun _ _ _ _ _ _ us hl => match us, hl with | [_, _], _ => rfl)
theorem cal__law_tree (t : Txt K mg) (c__law_roll : Cal P w K mg base 1 "_law_roll" (spRoll K)) (F : FD K "_law_tree" "_law_tree" s__law_tree f fd) (M : mg "_law_tree" = some (.ref f)) : ∀ m, Cal P w K mg base (m + 1) "_law_tree" (spTr K m)
  | 0 => cal_of (ps := ["dice", "deep"]) ⟨fun _ _ _ _ ⟨_, _, _, _, _, _, _, _, _, _, ⟨_, z, _⟩, _⟩ => absurd z (Nat.not_lt_zero _), fun _ _ _ _ _ _ _ _ _ _ _ _ _ ⟨_, _, _, _, _, _, _, _, _, _, ⟨_, z, _⟩, _⟩ => absurd z (Nat.not_lt_zero _)⟩ M F.kp (F.bindsN fun _ _ _ _ _ _ us hl => match us, hl with | [_, _], _ => rfl)
  | m + 1 => cal_of (fn_Q (t := fun W => t__law_tree K W (spRoll K) (spTr K m)) F sc__law_tree (fun ds ⟨_, _, e⟩ => by rw [e]; rfl) (fun cdv A outer s H E hr => der__law_tree t c__law_roll (by omega) (cal__law_tree t c__law_roll F M m) (Nat.le_refl _) hr) (fun W ds h => tree_xs m ds h)) M F.kp (F.bindsN fun _ _ _ _ _ _ us hl => match us, hl with | [_, _], _ => rfl)
theorem cal_tree_from_text (t : Txt K mg) (rc : RdC K) (c_tree_text : Cal P w K mg base 201 "tree_text" (spTt K 201)) (n_TreeReader : New P w K mg base 1 "TreeReader" (He.ga K "TreeReader") (spNew K (RC K) initPre initF)) (m_item : MthF P w K mg base (2 * 200 + 2) (He.ga K "TreeReader") "item" (spIt K 200)) (F : FD K "tree_from_text" "tree_from_text" s_tree_from_text f fd) (M : mg "tree_from_text" = some (.ref f)) : Cal P w K mg base 202 "tree_from_text" (spFr K) :=
  cal_of (fn_I (k := 201) (t := fun W => t_tree_from_text K W (spTt K 201) (spNew K (RC K) initPre initF) (spIt K 200)) F sc_tree_from_text (fun _ => rfl) (fun cdv A outer s H E hr => der_tree_from_text (kF := 402) t c_tree_text (by decide) n_TreeReader (by decide) m_item (by decide) hr (hr.fine (by decide) (by decide))) (fun W i h => from_xs rc i h)) M F.kp (F.bindsN fun _ _ _ _ _ _ us hl => match us, hl with | [_], _ => rfl)
end
/-! ### the head -/
def dF (a : Str × Option Str) (x q : Str) (s : Stmt) : He.DefD := ⟨a, x, q, defArgs s, defBody s, defScope s, [], []⟩
def fn : List He.DefD := [dF ("tree_text", none) "tree_text" "tree_text" s_tree_text, dF ("TreeReader", some "__init__") "__init__" "TreeReader.__init__" s_TreeReader___init__, dF ("TreeReader", some "digits_to") "digits_to" "TreeReader.digits_to" s_TreeReader_digits_to, dF ("TreeReader", some "item") "item" "TreeReader.item" s_TreeReader_item, dF ("TreeReader", some "items_in_brackets") "items_in_brackets" "TreeReader.items_in_brackets" s_TreeReader_items_in_brackets, dF ("pieces", none) "pieces" "pieces" s_pieces, dF ("_law_dice", none) "_law_dice" "_law_dice" s__law_dice, dF ("_law_roll", none) "_law_roll" "_law_roll" s__law_roll, dF ("_law_shown", none) "_law_shown" "_law_shown" s__law_shown, dF ("_law_rounds", none) "_law_rounds" "_law_rounds" s__law_rounds, dF ("_law_tree", none) "_law_tree" "_law_tree" s__law_tree, dF ("tree_from_text", none) "tree_from_text" "tree_from_text" s_tree_from_text, dF ("_law_told", none) "_law_told" "_law_told" s__law_told, dF ("law", none) "law" "law" s_law]
def fa : List He.Fa := [.glo "tree_text", .glo "pieces", .glo "_law_dice", .glo "_law_roll", .glo "_law_shown", .glo "_law_rounds", .glo "_law_tree", .glo "tree_from_text", .glo "_law_told", .glo "law", .glo "TreeReader", .glo "RecordFault", .exc "RecordFault", .exm "RecordFault" "RecordFault" true, .free "abs", .free "int", .free "isinstance", .free "len", .free "range", .free "str", .free "tuple", .cls "TreeReader", .mkr "TreeReader", .meth "TreeReader" "digits_to", .meth "TreeReader" "item", .meth "TreeReader" "items_in_brackets", .noat "TreeReader" "text", .noat "TreeReader" "place", .noat "TreeReader" "nesting", .str "CODE_DIGITS" "0123456789", .int "MOST_OPEN_ROWS" 200]
def tf : List He.Defn := [("law", none)]
def tbl (K : PySem.W.Frag) : Tb := [((He.cT K ("law", none)).2, lamQ_law)]
def exB (K : PySem.W.Frag) : Bool := decide (((tf.map fun p => (He.cT K p).2).Nodup))
abbrev R : PySem.W.OpenRow := PySem.W.OpenLaw.row PySem.Challenge.rw_tablestack_k07_nested_rows_as_text
abbrev hk : PySem.W.Hook := He.hookX 5 fa fn [] tf exB
def ob (s : PySem.W.SharedT) : He.AlX := He.obsX 5 fa fn [] tf exB (HandSHeadRun.getT s)
theorem ob_eq (s : PySem.W.SharedT) : ob s = hk.obs s.abs := He.obsX_eq (HandSHeadRun.getT_eq s)
abbrev loose : List Str := ["TableError", "RecordFault", "CODE_DIGITS", "MOST_OPEN_ROWS", "tree_text", "TreeReader", "tree_from_text", "pieces", "_law_dice", "_law_roll", "_law_rounds", "_law_told", "_law_tree", "_law_shown"]
theorem run (w : World) : HandSHeadRun.RunEq R (PySem.W.view R.prog [17]) hk ob 6000 loose w := by
  intro os
  kernel_rfl
theorem law_ok [Tt] {P : Program} {w : World} {K : PySem.W.Frag} {mg : Str → Option Value} {base : Heap} (t : Txt K mg) (hx0 : PySem.W.exmOne K (.ref (He.ga K "RecordFault")) (.ref (He.ga K "RecordFault")) = some true)
    {fd : FuncData} (F : FD K "law" "law" s_law (He.fAd K ("law", none)) fd) {fd_told : FuncData} (F_told : FD K "_law_told" "_law_told" s__law_told (He.ga K "_law_told") fd_told) (M_told : mg "_law_told" = some (.ref (He.ga K "_law_told")))
    (TB : LamX.TabB base mg (He.cT K ("law", none)).1 (He.cT K ("law", none)).2) (hmT : ((He.cT K ("law", none)).2, lamQ_law) ∈ Tt.tb) (hu : ∀ p ∈ Tt.tb, p.1 = (He.cT K ("law", none)).2 → p.2 = lamQ_law) (hTc : ∀ p ∈ Tt.tb, p.1 ∈ tf.map fun p => (He.cT K p).2) (c__law_roll : Cal P w K mg base 1 "_law_roll" (spRoll K)) (c__law_rounds : Cal P w K mg base 2 "_law_rounds" (spRounds K)) (c__law_shown : Cal P w K mg base 201 "_law_shown" (spTt K 201)) (c__law_tree : Cal P w K mg base 7 "_law_tree" (spTr K 6)) (c_pieces : Cal P w K mg base 1 "pieces" (spPc K)) (c_tree_from_text : Cal P w K mg base 202 "tree_from_text" (spFr K)) (c_tree_text : Cal P w K mg base 201 "tree_text" (spTt K 201)) :
    FnOk P w K mg base (L2.CX P w) 205 (He.fAd K ("law", none)) fd ["script"] (spLaw K (tf.map fun p => (He.cT K p).2)) := by
  refine fn_H (t := fun W => t_law K W (spRoll K) (spRounds K) (spTt K 201) (spTr K 6) (spPc K) (spFr K) (spTt K 201)) F sc_law (fun vs H Q E ⟨_, _, e, _⟩ => by rw [e]; rfl) (fun cdv A outer s H E e hr => der_law (kk := 204) (kl := 202) t (by decide) c__law_roll (by decide) c__law_rounds (by decide) c__law_shown (by decide) c__law_tree (by decide) c_pieces (by decide) c_tree_from_text (by decide) c_tree_text (by decide) TB hmT hu F_told M_told (F_told.bindsN fun _ _ _ _ _ _ us hl => match us, hl with | [_], _ => rfl) (e.symm.trans (code_of (q := ("law", none)) F)) hr) fun W vs H Q E hsp => ?_
  exact law_frame2 (n := 10) hsp hTc rfl (body_xs hx0) (end_law hx0)
theorem facts {w : World} {h : Heap} {mg : Str → Option Value} {f : Addr} {K : PySem.W.Frag} (X : K.In h) (G : h.Ns mainGlobals mg) (hfa : mg ("law" : Str) = some (.ref f)) (c : He.SaysX fa fn [] tf exB w h K) :
    LamX.LawAtS PySem.Challenge.rw_tablestack_k07_nested_rows_as_text w K (L2.CX (PySem.Challenge.rw_tablestack_k07_nested_rows_as_text).prog w) 205 63 "script" mg f h := by
  have d := c.t.d
  have glo : ∀ {x : Str}, He.Fa.glo x ∈ fa → mg x = some (.ref (He.ga K x)) := fun h => He.glo_ok X G (d.facts h)
  have fre : ∀ {x : Str}, He.Fa.free x ∈ fa → mg x = none := fun h => He.free_ok X G (d.facts h)
  obtain ⟨fd_tree_text, F_tree_text⟩ := d.defs (d := dF ("tree_text", none) "tree_text" "tree_text" s_tree_text) (by simp [fn])
  obtain ⟨fd_TreeReader___init__, F_TreeReader___init__⟩ := d.defs (d := dF ("TreeReader", some "__init__") "__init__" "TreeReader.__init__" s_TreeReader___init__) (by simp [fn])
  obtain ⟨fd_TreeReader_digits_to, F_TreeReader_digits_to⟩ := d.defs (d := dF ("TreeReader", some "digits_to") "digits_to" "TreeReader.digits_to" s_TreeReader_digits_to) (by simp [fn])
  obtain ⟨fd_TreeReader_item, F_TreeReader_item⟩ := d.defs (d := dF ("TreeReader", some "item") "item" "TreeReader.item" s_TreeReader_item) (by simp [fn])
  obtain ⟨fd_TreeReader_items_in_brackets, F_TreeReader_items_in_brackets⟩ := d.defs (d := dF ("TreeReader", some "items_in_brackets") "items_in_brackets" "TreeReader.items_in_brackets" s_TreeReader_items_in_brackets) (by simp [fn])
  obtain ⟨fd_pieces, F_pieces⟩ := d.defs (d := dF ("pieces", none) "pieces" "pieces" s_pieces) (by simp [fn])
  obtain ⟨fd__law_dice, F__law_dice⟩ := d.defs (d := dF ("_law_dice", none) "_law_dice" "_law_dice" s__law_dice) (by simp [fn])
  obtain ⟨fd__law_roll, F__law_roll⟩ := d.defs (d := dF ("_law_roll", none) "_law_roll" "_law_roll" s__law_roll) (by simp [fn])
  obtain ⟨fd__law_shown, F__law_shown⟩ := d.defs (d := dF ("_law_shown", none) "_law_shown" "_law_shown" s__law_shown) (by simp [fn])
  obtain ⟨fd__law_rounds, F__law_rounds⟩ := d.defs (d := dF ("_law_rounds", none) "_law_rounds" "_law_rounds" s__law_rounds) (by simp [fn])
  obtain ⟨fd__law_tree, F__law_tree⟩ := d.defs (d := dF ("_law_tree", none) "_law_tree" "_law_tree" s__law_tree) (by simp [fn])
  obtain ⟨fd_tree_from_text, F_tree_from_text⟩ := d.defs (d := dF ("tree_from_text", none) "tree_from_text" "tree_from_text" s_tree_from_text) (by simp [fn])
  obtain ⟨fd__law_told, F__law_told⟩ := d.defs (d := dF ("_law_told", none) "_law_told" "_law_told" s__law_told) (by simp [fn])
  obtain ⟨fd_law, F_law⟩ := d.defs (d := dF ("law", none) "law" "law" s_law) (by simp [fn])
  have e_RecordFault := He.exc_ok (d.facts (f := .exc "RecordFault") (by simp [fa]))
  have C_TreeReader := He.cls_ok (d.facts (f := .cls "TreeReader") (by simp [fa]))
  have na0 := He.noat_ok (d.facts (f := .noat "TreeReader" "text") (by simp [fa]))
  have na1 := He.noat_ok (d.facts (f := .noat "TreeReader" "place") (by simp [fa]))
  have na2 := He.noat_ok (d.facts (f := .noat "TreeReader" "nesting") (by simp [fa]))
  have more := c.more
  unfold exB at more
  have nd := of_decide_eq_true more
  have t : Txt K mg := { c_CODE_DIGITS := He.str_ok X G (d.facts (by simp [fa])), c_MOST_OPEN_ROWS := He.int_ok X G (d.facts (by simp [fa])), x_RecordFault := e_RecordFault.1, g_RecordFault := glo (by simp [fa]), k_RecordFault := e_RecordFault.2.1, b_RecordFault := e_RecordFault.2.2.1, t_RecordFault := e_RecordFault.2.2.2, n_abs := fre (by simp [fa]), n_int := fre (by simp [fa]), n_isinstance := fre (by simp [fa]), n_len := fre (by simp [fa]), n_range := fre (by simp [fa]), n_str := fre (by simp [fa]), n_tuple := fre (by simp [fa]) }
  have hx0 := He.exm_ok (d.facts (f := .exm "RecordFault" "RecordFault" true) (by simp [fa]))
  have rc : RdC K := ⟨C_TreeReader, na0, na1, na2⟩
  have e := hfa.symm.trans (glo (x := "law") (by simp [fa]))
  have e' : f = He.ga K "law" := by
    injection e with e
    injection e
  subst e'
  have b := FunD.bindsA (ps := ["script"]) F_law fun _ _ _ _ _ _ us hl => match us, hl with | [_], _ => rfl
  have tfm : ∀ {p : Addr × Addr}, p ∈ tf.map (He.cT K) → ∃ q ∈ tf, p = He.cT K q := fun h => by
    obtain ⟨q, h1, h2⟩ := List.mem_map.mp h
    exact ⟨q, h1, h2.symm⟩
  have tbm : ∀ p ∈ tbl K, p.1 ∈ tf.map fun p => (He.cT K p).2 := fun p hp => by
    simp only [tbl, tf, List.map_cons, List.map_nil, List.mem_cons] at hp ⊢
    rcases hp with rfl | z
    all_goals first | (cases z; done) | simp
  have ndt : ((tbl K).map (·.1)).Nodup := nd
  refine ⟨fd_law, tf.map (He.cT K), spLaw K (tf.map fun p => (He.cT K p).2), fun p hp => ?_, fun p hp => ?_, fun p hp => ?_, fun s u => b s [u] rfl, fun H a ns _ _ hT hS => ⟨a, ns, rfl, hS, fun p hp => ?_, fun H' => rfl⟩, fun base Kb Gb hTB => ?_⟩
  · obtain ⟨q, hq, rfl⟩ := tfm hp
    exact c.empty _ hq
  · obtain ⟨q, hq, rfl⟩ := tfm hp
    exact c.out _ hq
  · obtain ⟨q, hq, rfl⟩ := tfm hp
    exact PySem.W.codeHd_of_K X (c.hd _ hq)
  · obtain ⟨q, hq, rfl⟩ := List.mem_map.mp hp
    exact hT _ (List.mem_map.mpr ⟨q, hq, rfl⟩)
  · letI : Tt := ⟨tbl K⟩
    have T_law := hTB (He.cT K ("law", none)) (List.mem_map.mpr ⟨_, .head _, rfl⟩)
    have M_law : ((He.cT K ("law", none)).2, lamQ_law) ∈ tbl K := .head _
    have k_tree_text := cal_tree_text (P := (PySem.Challenge.rw_tablestack_k07_nested_rows_as_text).prog) (w := w) (base := base) t F_tree_text (glo (by simp [fa])) 201
    have k_TreeReader := new_TreeReader (P := (PySem.Challenge.rw_tablestack_k07_nested_rows_as_text).prog) (w := w) (base := base) t rc (He.mkr_ok (d.facts (f := .mkr "TreeReader") (by simp [fa]))) F_TreeReader___init__ (glo (by simp [fa]))
    have k_TreeReader_digits_to := mth_TreeReader_digits_to (P := (PySem.Challenge.rw_tablestack_k07_nested_rows_as_text).prog) (w := w) (base := base) t rc (He.meth_ok (d.facts (f := .meth "TreeReader" "digits_to") (by simp [fa]))) F_TreeReader_digits_to
    have k_TreeReader_item := mth_TreeReader_item (P := (PySem.Challenge.rw_tablestack_k07_nested_rows_as_text).prog) (w := w) (base := base) t rc k_TreeReader_digits_to (He.meth_ok (d.facts (f := .meth "TreeReader" "item") (by simp [fa]))) F_TreeReader_item (He.meth_ok (d.facts (f := .meth "TreeReader" "items_in_brackets") (by simp [fa]))) F_TreeReader_items_in_brackets 200
    have k_pieces := cal_pieces (P := (PySem.Challenge.rw_tablestack_k07_nested_rows_as_text).prog) (w := w) (base := base) t F_pieces (glo (by simp [fa]))
    have k__law_dice := cal__law_dice (P := (PySem.Challenge.rw_tablestack_k07_nested_rows_as_text).prog) (w := w) (base := base) t F__law_dice (glo (by simp [fa]))
    have k__law_roll := cal__law_roll (P := (PySem.Challenge.rw_tablestack_k07_nested_rows_as_text).prog) (w := w) (base := base) t F__law_roll (glo (by simp [fa]))
    have k__law_shown := cal__law_shown (P := (PySem.Challenge.rw_tablestack_k07_nested_rows_as_text).prog) (w := w) (base := base) t F__law_shown (glo (by simp [fa])) 201
    have k__law_rounds := cal__law_rounds (P := (PySem.Challenge.rw_tablestack_k07_nested_rows_as_text).prog) (w := w) (base := base) t k__law_dice F__law_rounds (glo (by simp [fa]))
    have k__law_tree := cal__law_tree (P := (PySem.Challenge.rw_tablestack_k07_nested_rows_as_text).prog) (w := w) (base := base) t k__law_roll F__law_tree (glo (by simp [fa])) 6
    have k_tree_from_text := cal_tree_from_text (P := (PySem.Challenge.rw_tablestack_k07_nested_rows_as_text).prog) (w := w) (base := base) t rc k_tree_text k_TreeReader k_TreeReader_item.2 F_tree_from_text (glo (by simp [fa]))
    exact law_ok t hx0 F_law F__law_told (glo (by simp [fa])) T_law M_law (hu_of ndt M_law) tbm k__law_roll k__law_rounds k__law_shown k__law_tree k_pieces k_tree_from_text k_tree_text
end K07
open PySem PySem.W PySem.Calls PyProof.Rows
theorem PySem.Challenge.cw_tablestack_k07_nested_rows_as_text_holds : PySem.Challenge.rw_tablestack_k07_nested_rows_as_text.Holds := by
  w_on; o_law
  refine HandSHeadRun.head_any (r := OpenLaw.row PySem.Challenge.rw_tablestack_k07_nested_rows_as_text) (q := view (OpenLaw.row PySem.Challenge.rw_tablestack_k07_nested_rows_as_text).prog [17]) (H := K07.hk) (ob := K07.ob) (M := 6000) (loose := K07.loose) (d := HandSHeadRun.topDef (OpenLaw.row PySem.Challenge.rw_tablestack_k07_nested_rows_as_text).prog 17) (kwd := []) K07.ob_eq
    (by kernel_rfl) (fun s => by kernel_rfl) K07.run (by kernel_rfl) (by kernel_rfl) (by kernel_rfl) (by rfl) (by first | assumption | decide +kernel) (by decide +kernel) ⟨rfl, rfl, rfl, rfl, rfl, by decide +kernel⟩ ?hw ?hc
  case hw => w_witness2
  case hc =>
    refine LamX.walk_ofTsE (l := PySem.Challenge.rw_tablestack_k07_nested_rows_as_text) (n := 63) (k := 205) (x := "script") (CX := fun w => L2.CX (PySem.Challenge.rw_tablestack_k07_nested_rows_as_text).prog w) rfl (by decide) (by kernel_rfl) ⟨rfl, by decide, by decide⟩ ?F (fun w H s e s' z => ?X)
    case F =>
      intro w mg fa h Y G hmg0
      obtain ⟨K, KX, c⟩ := Y
      have hmg : mg ("law" : PySem.Str) = some (.ref fa) := by
        have e : (HandSHeadRun.topDef (OpenLaw.row PySem.Challenge.rw_tablestack_k07_nested_rows_as_text).prog 17).name = ("law" : PySem.Str) := by kernel_rfl
        rw [← e]
        exact hmg0
      exact ⟨K, KX, K07.facts KX G hmg c⟩
    case X =>
      obtain ⟨_, _, _, _, _, _, _, _, _, _, _, _, _, _, _, _, z⟩ := z
