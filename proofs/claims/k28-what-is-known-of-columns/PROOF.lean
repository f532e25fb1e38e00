import PyProof.Rows.All
import Wide.All
import OpenK.AllK
import Wide.FinOn
import KE.KStateDown
import HandS.ForMost
import HandS.Exc
import HandS.ExcOwn
import HandS.TryOnly
import HandS.TryMany
import HandS.More
import HandS.Style
import HandS.TupAny
import HandS.TupMul
import HandS.TupLe
import HandS.Wide
import HandS.Walk
import HandS.Defaults
import HandS.WordsExc
import HandS.Lambda
import HandS.EndTab
import HandS.HeadWalk
import HandS.Head0
import HandS.Head1
import HandS.Head2
import HandS.HeadHook1
import HandS.HeadHook2
import HandS.HeadHook3
import HandS.HeadHook4
import HandS.Zip
import KE.GoesMore
import KE.GoesEnum
import PyProof.ListRange
import HandS.ExcCtx
import HandS.Hot
import HandS.HotCalls
import HandS.SuiteRaise
import HandS.RaiseFrom
import HandS.AnyAll
import HandS.JoinGen
import HandS.GenList
import HandS.IsInst
import HandS.Text
import KE.SortData
import PyProof.Rows.SortWalk
import KE.KDictKeyed
import HandS.TupLen
import PySem.Challenge.RW_tablestack_k28_what_is_known_of_columns
set_option Elab.async false
set_option linter.all false
set_option autoImplicit false
set_option maxRecDepth 100000
set_option maxHeartbeats 0
/-! A program logic over data, above the readings of the hand layer: values are told as data (D), slots as an environment of data (En); heaps stay within this file. -/
namespace Ts
open PySem L2

/-! ### data -/
inductive D where
  | non | bl (b : Bool) | int (i : Int) | str (x : Str) | lst (xs : List D) | tup (xs : List D) | obj (C : Addr) (fs : List (Str × D))

/-- all but tables of code objects stay -/
def Exx (H H' : Hp) : Prop := ∀ a o, H a = some o → (∀ ps, o ≠ HO.tbl ps) → H' a = some o
theorem Exx.refl (H : Hp) : Exx H H := fun _ _ h _ => h
theorem Exx.trans {H H1 H2 : Hp} (a : Exx H H1) (b : Exx H1 H2) : Exx H H2 := fun x o h n => b x o (a x o h n) n
theorem Exx.l {H H' : Hp} (e : Exx H H') {a : Addr} {xs : List V} (h : H a = some (.lst xs)) : H' a = some (.lst xs) := e a _ h (fun _ z => nomatch z)
theorem Exx.i {H H' : Hp} (e : Exx H H') {a C dx : Addr} {vs : List (Str × V)} (h : H a = some (.ins C dx vs)) : H' a = some (.ins C dx vs) := e a _ h (fun _ z => nomatch z)
abbrev Tb : Type := List (Addr × Str)
abbrev Qd : Type := Option Addr
/-- the tables of code objects that grow: those of lambdas and of generator expressions, each with the name that its code objects bear -/
class Tt where
  tb : Tb
variable [Tt]
/-- the tables stand -/
def TbOk (H : Hp) : Prop := LamX.Tabs Tt.tb H

mutual
/-- v stands for d, over what is frozen: G -/
inductive Rp (K : PySem.W.Frag) (G : Hp) : V → D → Prop
  | non : Rp K G .non .non
  | bl (b : Bool) : Rp K G (.bl b) (.bl b)
  | int (i : Int) : Rp K G (.int i) (.int i)
  | str (x : Str) : Rp K G (.str x) (.str x)
  | lst {a : Addr} {xs : List V} {ds : List D} : G a = some (.lst xs) → RpL K G xs ds → Rp K G (.ref a) (.lst ds)
  | tup {a : Addr} {xs : List V} {ds : List D} : SqT K G a xs → RpL K G xs ds → Rp K G (.ref a) (.tup ds)
  | obj {a C dx : Addr} {vs : List (Str × V)} {fs : List (Str × D)} : G a = some (.ins C dx vs) → RpF K G vs fs → Rp K G (.ref a) (.obj C fs)
inductive RpL (K : PySem.W.Frag) (G : Hp) : List V → List D → Prop
  | nil : RpL K G [] []
  | cons {v : V} {vs : List V} {d : D} {ds : List D} : Rp K G v d → RpL K G vs ds → RpL K G (v :: vs) (d :: ds)
inductive RpF (K : PySem.W.Frag) (G : Hp) : List (Str × V) → List (Str × D) → Prop
  | nil : RpF K G [] []
  | cons {f : Str} {v : V} {vs : List (Str × V)} {d : D} {ds : List (Str × D)} : Rp K G v d → RpF K G vs ds → RpF K G ((f, v) :: vs) ((f, d) :: ds)
end

theorem rd_ex {H H' : Hp} {a : Addr} {u : HO} (e : Exx H H') (n : ∀ ps, u ≠ HO.tbl ps) (h : Rd H a u) : Rd H' a u := by
  rcases h with h | ⟨o, h⟩
  · exact Or.inl (e a _ h n)
  · exact Or.inr ⟨o, e a _ h (fun _ z => nomatch z)⟩
theorem sl_ex {K : PySem.W.Frag} {H H' : Hp} {a : Addr} {xs : List V} (e : Exx H H') (h : SqL K H a xs) : SqL K H' a xs := by
  rcases h with h | h
  · exact Or.inl (rd_ex e (fun _ z => nomatch z) h)
  · exact Or.inr h
theorem st_ex {K : PySem.W.Frag} {H H' : Hp} {a : Addr} {xs : List V} (e : Exx H H') (h : SqT K H a xs) : SqT K H' a xs := by
  rcases h with h | h
  · exact Or.inl (rd_ex e (fun _ z => nomatch z) h)
  · exact Or.inr h
mutual
theorem Rp.ex {K : PySem.W.Frag} {G G' : Hp} (e : Exx G G') : ∀ {v : V} {d : D}, Rp K G v d → Rp K G' v d
  | _, _, .non => .non
  | _, _, .bl b => .bl b
  | _, _, .int i => .int i
  | _, _, .str x => .str x
  | _, _, .lst h r => .lst (e.l h) (RpL.ex e r)
  | _, _, .tup h r => .tup (st_ex e h) (RpL.ex e r)
  | _, _, .obj h r => .obj (e.i h) (RpF.ex e r)
theorem RpL.ex {K : PySem.W.Frag} {G G' : Hp} (e : Exx G G') : ∀ {vs : List V} {ds : List D}, RpL K G vs ds → RpL K G' vs ds
  | _, _, .nil => .nil
  | _, _, .cons h r => .cons (Rp.ex e h) (RpL.ex e r)
theorem RpF.ex {K : PySem.W.Frag} {G G' : Hp} (e : Exx G G') : ∀ {vs : List (Str × V)} {ds : List (Str × D)}, RpF K G vs ds → RpF K G' vs ds
  | _, _, .nil => .nil
  | _, _, .cons h r => .cons (Rp.ex e h) (RpF.ex e r)
end
section
variable {K : PySem.W.Frag} {G : Hp}
theorem Rp.int_inv {v : V} {i : Int} (h : Rp K G v (.int i)) : v = .int i := by cases h; rfl
theorem Rp.bl_inv {v : V} {b : Bool} (h : Rp K G v (.bl b)) : v = .bl b := by cases h; rfl
theorem Rp.str_inv {v : V} {x : Str} (h : Rp K G v (.str x)) : v = .str x := by cases h; rfl
theorem Rp.non_inv {v : V} (h : Rp K G v .non) : v = .non := by cases h; rfl
theorem Rp.lst_inv {v : V} {ds : List D} (h : Rp K G v (.lst ds)) : ∃ a xs, v = .ref a ∧ G a = some (.lst xs) ∧ RpL K G xs ds := by
  cases h with
  | lst h r => exact ⟨_, _, rfl, h, r⟩
theorem Rp.tup_inv {v : V} {ds : List D} (h : Rp K G v (.tup ds)) : ∃ a xs, v = .ref a ∧ SqT K G a xs ∧ RpL K G xs ds := by
  cases h with
  | tup h r => exact ⟨_, _, rfl, h, r⟩
theorem Rp.obj_inv {v : V} {C : Addr} {fs : List (Str × D)} (h : Rp K G v (.obj C fs)) : ∃ a dx vs, v = .ref a ∧ G a = some (.ins C dx vs) ∧ RpF K G vs fs := by
  cases h with
  | obj h r => exact ⟨_, _, _, rfl, h, r⟩
theorem RpL.length : ∀ {vs : List V} {ds : List D}, RpL K G vs ds → vs.length = ds.length
  | _, _, .nil => rfl
  | _, _, .cons _ r => congrArg Nat.succ (RpL.length r)
theorem RpL.get : ∀ {vs : List V} {ds : List D} {i : Nat} {d : D}, RpL K G vs ds → ds[i]? = some d → ∃ v, vs[i]? = some v ∧ Rp K G v d
  | _, _, _, _, .nil, e => by simp at e
  | _, _, 0, _, .cons r _, e => by simp at e; subst e; exact ⟨_, rfl, r⟩
  | _, _, i + 1, x, .cons _ t, e => by
    obtain ⟨u, h1, h2⟩ := RpL.get (i := i) t (by simpa using e)
    exact ⟨u, by simpa using h1, h2⟩
theorem RpL.getV : ∀ {vs : List V} {ds : List D} {i : Nat} {v : V}, RpL K G vs ds → vs[i]? = some v → ∃ d, ds[i]? = some d ∧ Rp K G v d
  | _, _, _, _, .nil, e => by simp at e
  | _, _, 0, _, .cons r _, e => by simp at e; subst e; exact ⟨_, rfl, r⟩
  | _, _, i + 1, x, .cons _ t, e => by
    obtain ⟨u, h1, h2⟩ := RpL.getV (i := i) t (by simpa using e)
    exact ⟨u, by simpa using h1, h2⟩
theorem RpL.append : ∀ {xs ys : List V} {as bs : List D}, RpL K G xs as → RpL K G ys bs → RpL K G (xs ++ ys) (as ++ bs)
  | _, _, _, _, .nil, s => s
  | _, _, _, _, .cons r t, s => .cons r (RpL.append t s)
theorem RpL.take : ∀ {xs : List V} {as : List D} (n : Nat), RpL K G xs as → RpL K G (xs.take n) (as.take n)
  | _, _, 0, _ => .nil
  | _, _, _ + 1, .nil => .nil
  | _, _, n + 1, .cons r t => .cons r (RpL.take n t)
theorem RpL.drop : ∀ {xs : List V} {as : List D} (n : Nat), RpL K G xs as → RpL K G (xs.drop n) (as.drop n)
  | _, _, 0, r => r
  | _, _, _ + 1, .nil => .nil
  | _, _, n + 1, .cons _ t => RpL.drop n t
theorem RpL.reverse : ∀ {xs : List V} {as : List D}, RpL K G xs as → RpL K G xs.reverse as.reverse
  | _, _, .nil => .nil
  | _, _, .cons r t => by
    rw [List.reverse_cons, List.reverse_cons]
    exact RpL.append (RpL.reverse t) (.cons r .nil)
theorem RpL.replicate {v : V} {d : D} (h : Rp K G v d) : ∀ n, RpL K G (List.replicate n v) (List.replicate n d)
  | 0 => .nil
  | n + 1 => .cons h (RpL.replicate h n)
theorem RpL.ints : ∀ ns : List Int, RpL K G (ns.map V.int) (ns.map D.int)
  | [] => .nil
  | n :: r => .cons (.int n) (RpL.ints r)
theorem RpL.ints_inv : ∀ {ns : List Int} {vs : List V}, RpL K G vs (ns.map D.int) → vs = ns.map V.int
  | [], _, h => by cases h; rfl
  | n :: r, _, h => by
    cases h with
    | cons a b =>
      cases a
      rw [RpL.ints_inv b]; rfl
theorem RpL.bls_inv : ∀ {ns : List Bool} {vs : List V}, RpL K G vs (ns.map D.bl) → vs = ns.map V.bl
  | [], _, h => by cases h; rfl
  | n :: r, _, h => by
    cases h with
    | cons a b =>
      cases a
      rw [RpL.bls_inv b]; rfl
theorem RpL.strs_inv : ∀ {ns : List Str} {vs : List V}, RpL K G vs (ns.map D.str) → vs = ns.map V.str
  | [], _, h => by cases h; rfl
  | n :: r, _, h => by
    cases h with
    | cons a b =>
      cases a
      rw [RpL.strs_inv b]; rfl
theorem RpF.look : ∀ {vs : List (Str × V)} {ds : List (Str × D)} {f : Str} {d : D}, RpF K G vs ds → ds.lookup f = some d → ∃ v, vs.lookup f = some v ∧ Rp K G v d
  | _, _, _, _, .nil, e => by simp at e
  | _, _, f, d, .cons (f := g) r t, e => by
    rw [List.lookup_cons] at e ⊢
    cases q : f == g with
    | true =>
      rw [q] at e
      cases e
      exact ⟨_, rfl, r⟩
    | false =>
      rw [q] at e
      exact RpF.look t e
theorem RpF.lookN : ∀ {vs : List (Str × V)} {ds : List (Str × D)} {f : Str}, RpF K G vs ds → ds.lookup f = none → vs.lookup f = none
  | _, _, _, .nil, _ => rfl
  | _, _, f, .cons (f := g) r t, e => by
    rw [List.lookup_cons] at e ⊢
    cases q : f == g with
    | true => rw [q] at e; cases e
    | false => rw [q] at e; exact RpF.lookN t e
end

/-! ### growth -/
def DiceAt (H : Hp) (a : Addr) : Prop := ∃ x y z : Int, H a = some (.lst [.int x, .int y, .int z])
/-- nothing stands at a, or a table -/
def Nt (H : Hp) (a : Addr) : Prop := ∀ o, H a = some o → ∃ ps, o = HO.tbl ps
theorem Nt.of {H : Hp} {a : Addr} (h : H a = none) : Nt H a := fun o e => by rw [h] at e; cases e
theorem Nt.l {H : Hp} {a : Addr} {xs : List V} (n : Nt H a) (h : H a = some (.lst xs)) : False := by
  obtain ⟨ps, e⟩ := n _ h
  cases e
/-- tables and code objects stand -/
def Tbd (H H' : Hp) : Prop := TbOk H → TbOk H'
theorem Tbd.refl (H : Hp) : Tbd H H := fun h => h
theorem Tbd.of {H H' : Hp} (h : ∀ b o, H b = some o → (∀ xs, o ≠ HO.lst xs) → H' b = some o) : Tbd H H' := fun t p hp => by
  obtain ⟨ps, h1, h2, h3⟩ := t p hp
  refine ⟨ps, h _ _ h1 (fun _ z => nomatch z), h2, fun pos cv hc => ?_⟩
  obtain ⟨c, e1, e2⟩ := h3 pos cv hc
  exact ⟨c, e1, h _ _ e2 (fun _ z => nomatch z)⟩
theorem Tbd.new {H : Hp} {p : Addr} {o : HO} (hp : H p = none) : Tbd H (upd H p o) := .of fun b u e _ => by rw [upd_ne (ne_of_none e hp)]; exact e
theorem Tbd.chg {H : Hp} {p : Addr} {xs : List V} {o : HO} (hp : H p = some (.lst xs)) : Tbd H (upd H p o) := .of fun b u e n => by
  have : b ≠ p := fun z => by
    rw [z, hp] at e
    exact n xs (Option.some.inj e).symm
  rw [upd_ne this]; exact e
/-- from (G, H) to (G', H'): G frozen; what H knew stands (but the dice and the tables at q); what G' knows besides is new -/
structure Gr (q : Qd) (G H G' H' : Hp) : Prop where
  ex : Exx G G'
  nw : ∀ a o, G' a = some o → G a = some o ∨ Nt H a
  sub : Exx G' H'
  keep : ∀ a o, (q ≠ some a) → H a = some o → (∀ ps, o ≠ HO.tbl ps) → H' a = some o
  tk : Tbd H H'
  dq : ∀ a, q = some a → DiceAt H a → DiceAt H' a
theorem Gr.refl {q : Qd} {G H : Hp} (h : Exx G H) : Gr q G H G H := ⟨Exx.refl G, fun _ _ e => .inl e, h, fun _ _ _ e _ => e, Tbd.refl H, fun _ _ e => e⟩
theorem Gr.live {q : Qd} {G H G' H' : Hp} (g : Gr q G H G' H') (hq : ∀ a, q = some a → DiceAt H a) {a : Addr} (h : Nt H' a) : Nt H a := fun o e => by
  by_cases n : ∃ ps, o = HO.tbl ps
  · exact n
  · by_cases c : q = some a
    · obtain ⟨x, y, z, d⟩ := g.dq a c (hq a c)
      exact (h.l d).elim
    · obtain ⟨ps, z⟩ := h o (g.keep a o c e (fun ps z => n ⟨ps, z⟩))
      exact ⟨ps, z⟩
theorem Gr.trans {q : Qd} {G H G1 H1 G2 H2 : Hp} (a : Gr q G H G1 H1) (b : Gr q G1 H1 G2 H2) (hq : ∀ a, q = some a → DiceAt H a) : Gr q G H G2 H2 where
  ex := a.ex.trans b.ex
  nw := fun x o e => by
    rcases b.nw x o e with h | h
    · exact a.nw x o h
    · exact .inr (a.live hq h)
  sub := b.sub
  keep := fun x o c e n => b.keep x o c (a.keep x o c e n) n
  tk := fun t => b.tk (a.tk t)
  dq := fun x c e => b.dq x c (a.dq x c e)
theorem Gr.kl {q : Qd} {G H G' H' : Hp} (g : Gr q G H G' H') {a : Addr} {xs : List V} (n : q ≠ some a) (h : H a = some (.lst xs)) : H' a = some (.lst xs) := g.keep a _ n h (fun _ z => nomatch z)
/-- a growth that keeps all keeps the dice -/
theorem Gr.any {q : Qd} {G H G' H' : Hp} (a : Gr none G H G' H') : Gr q G H G' H' where
  ex := a.ex
  nw := a.nw
  sub := a.sub
  keep := fun x o _ e n => a.keep x o (by simp) e n
  tk := a.tk
  dq := fun x _ ⟨i, j, k, e⟩ => ⟨i, j, k, a.kl (by simp) e⟩
/-- a new frozen object -/
theorem Gr.new {G H : Hp} {p : Addr} {o : HO} (h : Exx G H) (hp : H p = none) (nt : ∀ ps, o ≠ HO.tbl ps := by exact fun _ z => nomatch z) : Gr none G H (upd G p o) (upd H p o) where
  ex := fun a u e n => by
    have : a ≠ p := fun z => by subst z; rw [h a u e n] at hp; cases hp
    rw [upd_ne this]; exact e
  nw := fun a u e => by
    by_cases c : a = p
    · subst c; exact .inr (.of hp)
    · rw [upd_ne c] at e; exact .inl e
  sub := fun a u e n => by
    by_cases c : a = p
    · subst c; rw [upd_same] at e ⊢; exact e
    · rw [upd_ne c] at e ⊢; exact h a u e n
  keep := fun a u _ e _ => by rw [upd_ne (ne_of_none e hp)]; exact e
  tk := .new hp
  dq := fun _ q => nomatch q

/-! ### environments -/
inductive Sl where
  /-- no value, or none that matters -/
  | no
  /-- a datum -/
  | dat (d : D)
  /-- a list of this def's own, still growing -/
  | own (ds : List D)
  /-- the dice -/
  | dice
abbrev En := List Sl
structure Rs (K : PySem.W.Frag) (q : Qd) (H0 G H : Hp) (σ : L2.St) (Δ : En) : Prop where
  sub : Exx G H
  len : σ.length = Δ.length
  gq : ∀ a, q = some a → Nt G a ∧ DiceAt H a
  tb : TbOk H
  dat : ∀ (i : Nat) (d : D), Δ[i]? = some (Sl.dat d) → ∃ v, σ[i]? = some (some v) ∧ Rp K G v d
  own : ∀ (i : Nat) (ds : List D), Δ[i]? = some (Sl.own ds) → ∃ (p : Addr) (vs : List V), σ[i]? = some (some (V.ref p)) ∧ H p = some (.lst vs) ∧ RpL K G vs ds ∧ Nt G p ∧ Nt H0 p ∧ q ≠ some p
  dif : ∀ (i j : Nat) (ds es : List D) (p : Addr), Δ[i]? = some (Sl.own ds) → Δ[j]? = some (Sl.own es) → σ[i]? = some (some (V.ref p)) → σ[j]? = some (some (V.ref p)) → i = j
  dice : ∀ (i : Nat), Δ[i]? = some Sl.dice → ∃ a : Addr, q = some a ∧ σ[i]? = some (some (V.ref a))
/-- the state: grown from the entry (G0, H0), its slots told by Δ -/
structure Sta (K : PySem.W.Frag) (q : Qd) (G0 H0 G H : Hp) (σ : L2.St) (Δ : En) : Prop where
  gr : Gr q G0 H0 G H
  hq : ∀ a, q = some a → DiceAt H0 a
  rs : Rs K q H0 G H σ Δ

section
variable {K : PySem.W.Frag} {q : Qd} {G0 H0 G H G' H' : Hp} {σ : L2.St} {Δ : En}
theorem Gr.un (g : Gr q G H G' H') {p : Addr} {xs : List V} (n : Nt G p) (h : H p = some (.lst xs)) : Nt G' p := fun o e => by
  rcases g.nw p o e with z | z
  · exact n o z
  · exact (z.l h).elim
/-- the state behind a growth that may turn the dice -/
theorem Sta.go (s : Sta K q G0 H0 G H σ Δ) (g : Gr q G H G' H') : Sta K q G0 H0 G' H' σ Δ := by
  refine ⟨s.gr.trans g s.hq, s.hq, g.sub, s.rs.len, fun a e => ?_, g.tk s.rs.tb, fun i d e => ?_, fun i ds e => ?_, s.rs.dif, s.rs.dice⟩
  · obtain ⟨h1, h2⟩ := s.rs.gq a e
    obtain ⟨x, y, z, h3⟩ := id h2
    exact ⟨g.un h1 h3, g.dq a e h2⟩
  · obtain ⟨v, h1, h2⟩ := s.rs.dat i d e
    exact ⟨v, h1, h2.ex g.ex⟩
  · obtain ⟨p, vs, h1, h2, h3, h4, h5, h6⟩ := s.rs.own i ds e
    exact ⟨p, vs, h1, g.kl h6 h2, h3.ex g.ex, g.un h4 h2, h5, h6⟩
theorem Sta.pure (s : Sta K q G0 H0 G H σ Δ) (g : Gr none G H G' H') : Sta K q G0 H0 G' H' σ Δ := s.go g.any
theorem Sta.sub (s : Sta K q G0 H0 G H σ Δ) : Exx G H := s.rs.sub
theorem Sta.dq (s : Sta K q G0 H0 G H σ Δ) : ∀ a, q = some a → DiceAt H a := fun a e => (s.rs.gq a e).2
theorem Sta.rf (s : Sta K q G0 H0 G H σ Δ) : Gr q G H G H := Gr.refl s.sub
theorem Sta.tr {G1 H1 G2 H2 : Hp} (s : Sta K q G0 H0 G H σ Δ) (g1 : Gr q G H G1 H1) (g2 : Gr q G1 H1 G2 H2) : Gr q G H G2 H2 := g1.trans g2 s.dq
/-- the state at an entry -/
theorem Sta.start {G H : Hp} {σ : L2.St} {Δ : En} (r : Rs K q H G H σ Δ) : Sta K q G H G H σ Δ := ⟨Gr.refl r.sub, fun a e => (r.gq a e).2, r⟩
/-- a slot gets a datum -/
theorem Sta.set (s : Sta K q G0 H0 G H σ Δ) {i : Nat} {v : V} {d : D} (r : Rp K G v d) : Sta K q G0 H0 G H (σ.set i (some v)) (Δ.set i (.dat d)) := by
  refine ⟨s.gr, s.hq, s.rs.sub, by rw [List.length_set, List.length_set]; exact s.rs.len, s.rs.gq, s.rs.tb, fun j e he => ?_, fun j ds he => ?_, fun j k ds es p h1 h2 h3 h4 => ?_, fun j he => ?_⟩
  · by_cases c : i = j
    · subst c
      have hl : i < Δ.length := by
        have := (List.getElem?_eq_some_iff.mp he).1
        simpa using this
      rw [List.getElem?_set_self hl] at he
      cases he
      exact ⟨v, List.getElem?_set_self (by rw [s.rs.len]; exact hl), r⟩
    · rw [List.getElem?_set_ne c] at he ⊢
      exact s.rs.dat j e he
  · by_cases c : i = j
    · subst c
      have hl : i < Δ.length := by
        have := (List.getElem?_eq_some_iff.mp he).1
        simpa using this
      rw [List.getElem?_set_self hl] at he
      cases he
    · rw [List.getElem?_set_ne c] at he ⊢
      exact s.rs.own j ds he
  · have nj : i ≠ j := fun c => by
      subst c
      have hl : i < Δ.length := by
        have := (List.getElem?_eq_some_iff.mp h1).1
        simpa using this
      rw [List.getElem?_set_self hl] at h1; cases h1
    have nk : i ≠ k := fun c => by
      subst c
      have hl : i < Δ.length := by
        have := (List.getElem?_eq_some_iff.mp h2).1
        simpa using this
      rw [List.getElem?_set_self hl] at h2; cases h2
    rw [List.getElem?_set_ne nj] at h1 h3
    rw [List.getElem?_set_ne nk] at h2 h4
    exact s.rs.dif j k ds es p h1 h2 h3 h4
  · by_cases c : i = j
    · subst c
      have hl : i < Δ.length := by
        have := (List.getElem?_eq_some_iff.mp he).1
        simpa using this
      rw [List.getElem?_set_self hl] at he
      cases he
    · rw [List.getElem?_set_ne c] at he ⊢
      exact s.rs.dice j he
/-- forgetting slots -/
theorem Sta.weak {σ' : L2.St} {Δ' : En} (s : Sta K q G0 H0 G H σ Δ) (hl : σ'.length = Δ'.length) (w : ∀ (i : Nat) (e : Sl), Δ'[i]? = some e → e = Sl.no ∨ (Δ[i]? = some e ∧ σ'[i]? = σ[i]?)) : Sta K q G0 H0 G H σ' Δ' := by
  refine ⟨s.gr, s.hq, s.rs.sub, hl, s.rs.gq, s.rs.tb, fun j e he => ?_, fun j ds he => ?_, fun j k ds es p h1 h2 h3 h4 => ?_, fun j he => ?_⟩
  · rcases w _ _ he with c | ⟨c, c2⟩
    · cases c
    · rw [c2]; exact s.rs.dat j e c
  · rcases w _ _ he with c | ⟨c, c2⟩
    · cases c
    · rw [c2]; exact s.rs.own j ds c
  · rcases w _ _ h1 with c | ⟨c, c2⟩
    · cases c
    · rcases w _ _ h2 with d | ⟨d, d2⟩
      · cases d
      · rw [c2] at h3
        rw [d2] at h4
        exact s.rs.dif j k ds es p c d h3 h4
  · rcases w _ _ he with c | ⟨c, c2⟩
    · cases c
    · rw [c2]; exact s.rs.dice j c
theorem Sta.setAny (s : Sta K q G0 H0 G H σ Δ) {i : Nat} {v : Option V} : Sta K q G0 H0 G H (σ.set i v) (Δ.set i .no) := by
  refine s.weak (by rw [List.length_set, List.length_set]; exact s.rs.len) fun j e he => ?_
  by_cases c : i = j
  · subst c
    have hl : i < Δ.length := by
      have := (List.getElem?_eq_some_iff.mp he).1
      simpa using this
    rw [List.getElem?_set_self hl] at he
    cases he
    exact .inl rfl
  · rw [List.getElem?_set_ne c] at he ⊢
    exact .inr ⟨he, rfl⟩
/-- a growing list is changed -/
theorem Sta.change (s : Sta K q G0 H0 G H σ Δ) {i : Nat} {p : Addr} {ds es : List D} {ws : List V} (hi : Δ[i]? = some (Sl.own ds)) (hp : σ[i]? = some (some (V.ref p))) (r : RpL K G ws es) :
    Sta K q G0 H0 G (upd H p (.lst ws)) σ (Δ.set i (.own es)) := by
  obtain ⟨p', vs, h1, h2, h3, h4, h5, h6⟩ := s.rs.own i ds hi
  have ep : p' = p := by rw [hp] at h1; cases h1; rfl
  subst ep
  have hl : i < Δ.length := (List.getElem?_eq_some_iff.mp hi).1
  have nop : ∀ {F : Hp} {a : Addr} {o : HO}, Nt F p' → F a = some o → (∀ ps, o ≠ HO.tbl ps) → a ≠ p' := fun n e nt z => by
    rw [z] at e
    obtain ⟨ps, h⟩ := n _ e
    exact nt ps h
  have subn : Exx G (upd H p' (.lst ws)) := fun a o e nt => by rw [upd_ne (nop h4 e nt)]; exact s.rs.sub a o e nt
  have dn : ∀ a, q = some a → DiceAt H a → DiceAt (upd H p' (.lst ws)) a := fun a c ⟨x, y, z, e⟩ => by
    have : a ≠ p' := fun z => by rw [z] at c; exact h6 c
    exact ⟨x, y, z, by rw [upd_ne this]; exact e⟩
  refine ⟨⟨s.gr.ex, s.gr.nw, subn, fun a o c e nt => ?_, fun t => Tbd.chg h2 (s.gr.tk t), fun a c d => dn a c (s.gr.dq a c d)⟩, s.hq, subn, by rw [List.length_set]; exact s.rs.len, fun a c => ⟨(s.rs.gq a c).1, dn a c (s.rs.gq a c).2⟩, Tbd.chg h2 s.rs.tb, fun j e he => ?_, fun j bs he => ?_, fun j k bs cs p h1' h2' h3' h4' => ?_, fun j he => ?_⟩
  · rw [upd_ne (nop h5 e nt)]; exact s.gr.keep a o c e nt
  · have nj : i ≠ j := fun c => by
      subst c
      rw [List.getElem?_set_self hl] at he; cases he
    rw [List.getElem?_set_ne nj] at he
    exact s.rs.dat j e he
  · by_cases c : i = j
    · subst c
      rw [List.getElem?_set_self hl] at he
      cases he
      exact ⟨p', ws, hp, upd_same, r, h4, h5, h6⟩
    · rw [List.getElem?_set_ne c] at he
      obtain ⟨p2, vs2, g1, g2, g3, g4, g5, g6⟩ := s.rs.own j bs he
      have : p2 ≠ p' := fun z => c (s.rs.dif i j ds bs p' hi he hp (by rw [z] at g1; exact g1))
      exact ⟨p2, vs2, g1, by rw [upd_ne this]; exact g2, g3, g4, g5, g6⟩
  · have back : ∀ {l : Nat} {as : List D}, (Δ.set i (.own es))[l]? = some (Sl.own as) → ∃ as', Δ[l]? = some (Sl.own as') := fun {l as} e => by
      by_cases c : i = l
      · subst c; exact ⟨ds, hi⟩
      · rw [List.getElem?_set_ne c] at e; exact ⟨as, e⟩
    obtain ⟨b1, e1⟩ := back h1'
    obtain ⟨b2, e2⟩ := back h2'
    exact s.rs.dif j k b1 b2 p e1 e2 h3' h4'
  · have nj : i ≠ j := fun c => by
      subst c
      rw [List.getElem?_set_self hl] at he; cases he
    rw [List.getElem?_set_ne nj] at he
    exact s.rs.dice j he
/-- a new list of one's own: at p, the slot i holds it -/
theorem Sta.newMut (s : Sta K q G0 H0 G H σ Δ) {i : Nat} {p : Addr} {ds : List D} {vs : List V} (hp : H p = none) (r : RpL K G vs ds) :
    Sta K q G0 H0 G (upd H p (.lst vs)) (σ.set i (some (V.ref p))) (Δ.set i (.own ds)) := by
  have hGp : Nt G p := fun o c => Classical.byContradiction fun n => by
    rw [s.rs.sub p o c (fun ps z => n ⟨ps, z⟩)] at hp; cases hp
  have hH0 : Nt H0 p := s.gr.live s.hq (.of hp)
  have hqp : q ≠ some p := fun c => by
    obtain ⟨x, y, z, e⟩ := (s.rs.gq p c).2
    rw [hp] at e; cases e
  have nop : ∀ {F : Hp} {a : Addr} {o : HO}, Nt F p → F a = some o → (∀ ps, o ≠ HO.tbl ps) → a ≠ p := fun n e nt z => by
    rw [z] at e
    obtain ⟨ps, h⟩ := n _ e
    exact nt ps h
  have subn : Exx G (upd H p (.lst vs)) := fun a o e nt => by rw [upd_ne (nop hGp e nt)]; exact s.rs.sub a o e nt
  have dn : ∀ a, q = some a → DiceAt H a → DiceAt (upd H p (.lst vs)) a := fun a c ⟨x, y, z, e⟩ => by
    have : a ≠ p := fun z => by rw [z] at c; exact hqp c
    exact ⟨x, y, z, by rw [upd_ne this]; exact e⟩
  have len' : (σ.set i (some (V.ref p))).length = (Δ.set i (.own ds)).length := by rw [List.length_set, List.length_set]; exact s.rs.len
  have old : ∀ {j : Nat} {e : Sl}, (Δ.set i (Sl.own ds))[j]? = some e → (j = i ∧ e = .own ds ∧ i < Δ.length) ∨ (j ≠ i ∧ Δ[j]? = some e ∧ (σ.set i (some (V.ref p)))[j]? = σ[j]?) := fun {j e} he => by
    by_cases c : i = j
    · subst c
      have hl : i < Δ.length := by
        have := (List.getElem?_eq_some_iff.mp he).1
        simpa using this
      rw [List.getElem?_set_self hl] at he
      cases he
      exact .inl ⟨rfl, rfl, hl⟩
    · rw [List.getElem?_set_ne c] at he
      exact .inr ⟨fun z => c z.symm, he, List.getElem?_set_ne c⟩
  refine ⟨⟨s.gr.ex, s.gr.nw, subn, fun a o c e nt => ?_, fun t => Tbd.new hp (s.gr.tk t), fun a c d => dn a c (s.gr.dq a c d)⟩, s.hq, subn, len', fun a c => ⟨(s.rs.gq a c).1, dn a c (s.rs.gq a c).2⟩, Tbd.new hp s.rs.tb, fun j e he => ?_, fun j bs he => ?_, fun j k bs cs p2 h1' h2' h3' h4' => ?_, fun j he => ?_⟩
  · rw [upd_ne (nop hH0 e nt)]; exact s.gr.keep a o c e nt
  · rcases old he with ⟨_, c, _⟩ | ⟨_, c, c2⟩
    · cases c
    · rw [c2]; exact s.rs.dat j e c
  · rcases old he with ⟨c1, c, hl⟩ | ⟨_, c, c2⟩
    · cases c
      subst c1
      exact ⟨p, vs, List.getElem?_set_self (by rw [s.rs.len]; exact hl), upd_same, r, hGp, hH0, hqp⟩
    · obtain ⟨p2, vs2, g1, g2, g3, g4, g5, g6⟩ := s.rs.own j bs c
      have : p2 ≠ p := fun z => by rw [z, hp] at g2; cases g2
      exact ⟨p2, vs2, by rw [c2]; exact g1, by rw [upd_ne this]; exact g2, g3, g4, g5, g6⟩
  · have other : ∀ {l : Nat} {as : List D}, l ≠ i → Δ[l]? = some (Sl.own as) → (σ.set i (some (V.ref p)))[l]? = σ[l]? → (σ.set i (some (V.ref p)))[l]? ≠ some (some (V.ref p)) := fun {l as} n e e2 z => by
      obtain ⟨p3, vs3, g1, g2, _⟩ := s.rs.own l as e
      rw [e2, g1] at z
      cases z
      rw [hp] at g2; cases g2
    have self : ∀ {l : Nat}, l = i → i < Δ.length → (σ.set i (some (V.ref p)))[l]? = some (some (V.ref p)) := fun {l} e hl => by
      subst e
      exact List.getElem?_set_self (by rw [s.rs.len]; exact hl)
    rcases old h1' with ⟨c1, _, hl⟩ | ⟨n1, c1, e1⟩
    · rcases old h2' with ⟨c2, _, _⟩ | ⟨n2, c2, e2⟩
      · rw [c1, c2]
      · rw [self c1 hl] at h3'
        cases h3'
        exact absurd h4' (other n2 c2 e2)
    · rcases old h2' with ⟨c2, _, hl⟩ | ⟨n2, c2, e2⟩
      · rw [self c2 hl] at h4'
        cases h4'
        exact absurd h3' (other n1 c1 e1)
      · rw [e1] at h3'
        rw [e2] at h4'
        exact s.rs.dif j k bs cs p2 c1 c2 h3' h4'
  · rcases old he with ⟨_, c, _⟩ | ⟨_, c, c2⟩
    · cases c
    · rw [c2]; exact s.rs.dice j c
/-- a list of one's own is frozen -/
theorem Sta.freeze (s : Sta K q G0 H0 G H σ Δ) {i : Nat} {ds : List D} (hi : Δ[i]? = some (Sl.own ds)) : ∃ G', Exx G G' ∧ Sta K q G0 H0 G' H σ (Δ.set i (.dat (.lst ds))) := by
  obtain ⟨p, vs, h1, h2, h3, h4, h5, h6⟩ := s.rs.own i ds hi
  have hl : i < Δ.length := (List.getElem?_eq_some_iff.mp hi).1
  have nop : ∀ {F : Hp} {a : Addr} {o : HO}, Nt F p → F a = some o → (∀ ps, o ≠ HO.tbl ps) → a ≠ p := fun n e nt z => by
    rw [z] at e
    obtain ⟨ps, h⟩ := n _ e
    exact nt ps h
  have exn : Exx G (upd G p (.lst vs)) := fun a o e nt => by rw [upd_ne (nop h4 e nt)]; exact e
  have subn : Exx (upd G p (.lst vs)) H := fun a o e nt => by
    by_cases c : a = p
    · rw [c, upd_same] at e; rw [c, ← e]; exact h2
    · rw [upd_ne c] at e; exact s.rs.sub a o e nt
  refine ⟨upd G p (.lst vs), exn, ⟨s.gr.ex.trans exn, fun a o e => ?_, subn, s.gr.keep, s.gr.tk, s.gr.dq⟩, s.hq, subn, by rw [List.length_set]; exact s.rs.len, fun a c => ?_, s.rs.tb, fun j e he => ?_, fun j bs he => ?_, fun j k bs cs p2 h1' h2' h3' h4' => ?_, fun j he => ?_⟩
  · by_cases c : a = p
    · rw [c]; exact .inr h5
    · rw [upd_ne c] at e; exact s.gr.nw a o e
  · obtain ⟨e1, e2⟩ := s.rs.gq a c
    have : a ≠ p := fun z => by rw [z] at c; exact h6 c
    exact ⟨fun o e => by rw [upd_ne this] at e; exact e1 o e, e2⟩
  · by_cases c : i = j
    · subst c
      rw [List.getElem?_set_self hl] at he
      cases he
      exact ⟨.ref p, h1, .lst upd_same (h3.ex exn)⟩
    · rw [List.getElem?_set_ne c] at he
      obtain ⟨v, g1, g2⟩ := s.rs.dat j e he
      exact ⟨v, g1, g2.ex exn⟩
  · have nj : i ≠ j := fun c => by
      subst c
      rw [List.getElem?_set_self hl] at he; cases he
    rw [List.getElem?_set_ne nj] at he
    obtain ⟨p2, vs2, g1, g2, g3, g4, g5, g6⟩ := s.rs.own j bs he
    have : p2 ≠ p := fun z => nj (s.rs.dif i j ds bs p hi he h1 (by rw [z] at g1; exact g1))
    exact ⟨p2, vs2, g1, g2, g3.ex exn, fun o e => by rw [upd_ne this] at e; exact g4 o e, g5, g6⟩
  · have nj : i ≠ j := fun c => by
      subst c
      rw [List.getElem?_set_self hl] at h1'; cases h1'
    have nk : i ≠ k := fun c => by
      subst c
      rw [List.getElem?_set_self hl] at h2'; cases h2'
    rw [List.getElem?_set_ne nj] at h1'
    rw [List.getElem?_set_ne nk] at h2'
    exact s.rs.dif j k bs cs p2 h1' h2' h3' h4'
  · have nj : i ≠ j := fun c => by
      subst c
      rw [List.getElem?_set_self hl] at he; cases he
    rw [List.getElem?_set_ne nj] at he
    exact s.rs.dice j he
end
end Ts


namespace Ts
variable [Tt]
open PySem L2

/-! ### expressions -/
section
variable (K : PySem.W.Frag) (E : L2.St → XK)
/-- te has some datum of R; it may raise one of X -/
def Ev (te : TE) (Δ : En) (R : D → Prop) (X : Addr → Prop) : Prop :=
  ∀ (q : Qd) (G0 H0 G H : Hp) (σ : L2.St) (Q : VK), Sta K q G0 H0 G H σ Δ →
    (∀ (v : V) (d : D) (G' H' : Hp), Gr q G H G' H' → Rp K G' v d → R d → Q v H') →
    (∀ (C : Addr) (G' H' : Hp), Gr q G H G' H' → X C → E σ (.ref C) none H') → te σ H Q
def Et (tt : TT) (Δ : En) (R : Bool → Prop) (X : Addr → Prop) : Prop :=
  ∀ (q : Qd) (G0 H0 G H : Hp) (σ : L2.St) (Q : Bool → Hp → Prop), Sta K q G0 H0 G H σ Δ →
    (∀ (b : Bool) (G' H' : Hp), Gr q G H G' H' → R b → Q b H') →
    (∀ (C : Addr) (G' H' : Hp), Gr q G H G' H' → X C → E σ (.ref C) none H') → tt σ H Q
def Ea (ta : TA) (Δ : En) (R : List D → Prop) (X : Addr → Prop) : Prop :=
  ∀ (q : Qd) (G0 H0 G H : Hp) (σ : L2.St) (Q : List V → Hp → Prop), Sta K q G0 H0 G H σ Δ →
    (∀ (vs : List V) (ds : List D) (G' H' : Hp), Gr q G H G' H' → RpL K G' vs ds → R ds → Q vs H') →
    (∀ (C : Addr) (G' H' : Hp), Gr q G H G' H' → X C → E σ (.ref C) none H') → ta σ H Q
def Eo (to : TO) (Δ : En) (R : Option Int → Prop) (X : Addr → Prop) : Prop :=
  ∀ (q : Qd) (G0 H0 G H : Hp) (σ : L2.St) (Q : Option Int → Hp → Prop), Sta K q G0 H0 G H σ Δ →
    (∀ (o : Option Int) (G' H' : Hp), Gr q G H G' H' → R o → Q o H') →
    (∀ (C : Addr) (G' H' : Hp), Gr q G H G' H' → X C → E σ (.ref C) none H') → to σ H Q
end
/-- operations by data: on two, on one, a call -/
def OpD (K : PySem.W.Frag) (r : R2) (x y : D) (R : D → Prop) : Prop := ∀ (G H : Hp) (v w : V) (Q : VK), Exx G H → Rp K G v x → Rp K G w y →
  (∀ (u : V) (d : D) (G' H' : Hp), Gr none G H G' H' → Rp K G' u d → R d → Q u H') → r v w H Q
def UnD (K : PySem.W.Frag) (r : V → Hp → VK → Prop) (x : D) (R : D → Prop) : Prop := ∀ (G H : Hp) (v : V) (Q : VK), Exx G H → Rp K G v x →
  (∀ (u : V) (d : D) (G' H' : Hp), Gr none G H G' H' → Rp K G' u d → R d → Q u H') → r v H Q
def CbD (K : PySem.W.Frag) (r : List V → Hp → VK → Prop) (xs : List D) (R : D → Prop) : Prop := ∀ (G H : Hp) (vs : List V) (Q : VK), Exx G H → RpL K G vs xs →
  (∀ (u : V) (d : D) (G' H' : Hp), Gr none G H G' H' → Rp K G' u d → R d → Q u H') → r vs H Q
def SlD (K : PySem.W.Frag) (r : V → Option Int → Option Int → Hp → VK → Prop) (x : D) (lo hi : Option Int) (R : D → Prop) : Prop := ∀ (G H : Hp) (v : V) (Q : VK), Exx G H → Rp K G v x →
  (∀ (u : V) (d : D) (G' H' : Hp), Gr none G H G' H' → Rp K G' u d → R d → Q u H') → r v lo hi H Q

section
variable {K : PySem.W.Frag} {E : L2.St → XK} {Δ : En} {te ta tb tc : TE} {tt tu : TT} {R Ra Rb : D → Prop} {X : Addr → Prop}
theorem Ev.mono {R' : D → Prop} {X' : Addr → Prop} (h : Ev K E te Δ R X) (hr : ∀ d, R d → R' d) (hx : ∀ C, X C → X' C) : Ev K E te Δ R' X' :=
  fun q G0 H0 G H σ Q s k kx => h q G0 H0 G H σ Q s (fun v d G' H' g r rd => k v d G' H' g r (hr d rd)) fun C G' H' g x => kx C G' H' g (hx C x)
theorem Ev.imp {R' : D → Prop} (h : Ev K E te Δ R X) (hr : ∀ d, R d → R' d) : Ev K E te Δ R' X := h.mono hr fun _ x => x
theorem Et.mono {R R' : Bool → Prop} {X' : Addr → Prop} (h : Et K E tt Δ R X) (hr : ∀ d, R d → R' d) (hx : ∀ C, X C → X' C) : Et K E tt Δ R' X' :=
  fun q G0 H0 G H σ Q s k kx => h q G0 H0 G H σ Q s (fun b G' H' g rd => k b G' H' g (hr b rd)) fun C G' H' g x => kx C G' H' g (hx C x)
theorem Et.imp {R R' : Bool → Prop} (h : Et K E tt Δ R X) (hr : ∀ d, R d → R' d) : Et K E tt Δ R' X := h.mono hr fun _ x => x
theorem Ea.imp {ta : TA} {R R' : List D → Prop} (h : Ea K E ta Δ R X) (hr : ∀ d, R d → R' d) : Ea K E ta Δ R' X :=
  fun q G0 H0 G H σ Q s k kx => h q G0 H0 G H σ Q s (fun v d G' H' g r rd => k v d G' H' g r (hr d rd)) kx
theorem ev_var {i : Nat} {d : D} (h : Δ[i]? = some (Sl.dat d)) : Ev K E (tVar i) Δ (· = d) X := fun q G0 H0 G H σ Q s k _ => by
  obtain ⟨v, h1, h2⟩ := s.rs.dat i d h
  exact ⟨v, h1, k v d G H s.rf h2 rfl⟩
theorem ev_int {i : Int} : Ev K E (tC (.int i)) Δ (· = .int i) X := fun q G0 H0 G H σ Q s k _ => k _ _ G H s.rf (.int i) rfl
theorem ev_str {x : Str} : Ev K E (tC (.str x)) Δ (· = .str x) X := fun q G0 H0 G H σ Q s k _ => k _ _ G H s.rf (.str x) rfl
theorem ev_bl {b : Bool} : Ev K E (tC (.bl b)) Δ (· = .bl b) X := fun q G0 H0 G H σ Q s k _ => k _ _ G H s.rf (.bl b) rfl
theorem ev_non : Ev K E (tC .non) Δ (· = .non) X := fun q G0 H0 G H σ Q s k _ => k _ _ G H s.rf .non rfl
/-- a constant of the module that is a tuple -/
theorem ev_ctup {a : Addr} {xs : List V} {ds : List D} (h : ∀ H, SqT K H a xs) (r : ∀ G, RpL K G xs ds) : Ev K E (tC (.ref a)) Δ (· = .tup ds) X := fun q G0 H0 G H σ Q s k _ => k _ _ G H s.rf (.tup (h G) (r G)) rfl
theorem ev_op {r : R2} (ha : Ev K E ta Δ Ra X) (hb : Ev K E tb Δ Rb X) (hr : ∀ x y, Ra x → Rb y → OpD K r x y R) : Ev K E (tOp r ta tb) Δ R X := fun q G0 H0 G H σ Q s k kx =>
  ha q G0 H0 G H σ _ s (fun v x G1 H1 g1 r1 p1 => hb q G0 H0 G1 H1 σ _ (s.go g1) (fun w y G2 H2 g2 r2 p2 =>
    hr x y p1 p2 G2 H2 v w Q g2.sub (r1.ex g2.ex) r2 fun u d G3 H3 g rd p3 => k u d G3 H3 (s.tr (s.tr g1 g2) g.any) rd p3) fun C G' H' g x => kx C G' H' (s.tr g1 g) x) kx
theorem ev_un {r : V → Hp → VK → Prop} (ha : Ev K E ta Δ Ra X) (hr : ∀ x, Ra x → UnD K r x R) : Ev K E (tUn r ta) Δ R X := fun q G0 H0 G H σ Q s k kx =>
  ha q G0 H0 G H σ _ s (fun v x G1 H1 g1 r1 p1 => hr x p1 G1 H1 v Q g1.sub r1 fun u d G3 H3 g rd p3 => k u d G3 H3 (s.tr g1 g.any) rd p3) kx
/-! the same, with one value each -/
theorem ev1_op {r : R2} {x y z : D} (ha : Ev K E ta Δ (· = x) X) (hb : Ev K E tb Δ (· = y) X) (hr : OpD K r x y (· = z)) : Ev K E (tOp r ta tb) Δ (· = z) X := ev_op ha hb fun a b e1 e2 => by subst e1; subst e2; exact hr
theorem ev1_un {r : V → Hp → VK → Prop} {x z : D} (ha : Ev K E ta Δ (· = x) X) (hr : UnD K r x (· = z)) : Ev K E (tUn r ta) Δ (· = z) X := ev_un ha fun a e1 => by subst e1; exact hr
theorem ev_is {d d' : D} (h : Ev K E te Δ (· = d) X) (e : d = d') : Ev K E te Δ (· = d') X := by subst e; exact h
/-! tests -/
theorem et_val {R : Bool → Prop} (h : Ev K E te Δ (fun d => ∃ b, d = .bl b ∧ R b) X) : Et K E (tTest te) Δ R X := fun q G0 H0 G H σ Q s k kx =>
  h q G0 H0 G H σ _ s (fun v d G1 H1 g1 r1 p1 => by
    obtain ⟨b, rfl, hb⟩ := p1
    cases r1
    exact ⟨b, rfl, k b G1 H1 g1 hb⟩) kx
theorem et_B {R : Bool → Prop} (h : Ev K E te Δ (fun d => ∃ b, d = .bl b ∧ R b) X) : Et K E (tB te) Δ R X := et_val h
theorem et1_val {b : Bool} (h : Ev K E te Δ (· = .bl b) X) : Et K E (tTest te) Δ (· = b) X := et_val (h.imp fun d e => ⟨b, e, rfl⟩)
theorem et1_B {b : Bool} (h : Ev K E te Δ (· = .bl b) X) : Et K E (tB te) Δ (· = b) X := et_B (h.imp fun d e => ⟨b, e, rfl⟩)
theorem et_and {R1 R2 R : Bool → Prop} (h1 : Et K E tt Δ R1 X) (h2 : R1 true → Et K E tu Δ R2 X) (t1 : ∀ b, R1 true → R2 b → R b) (t2 : R1 false → R false) : Et K E (tAnd tt tu) Δ R X := fun q G0 H0 G H σ Q s k kx =>
  h1 q G0 H0 G H σ _ s (fun b G1 H1 g1 p1 => by
    cases b with
    | true => exact iteT (h2 p1 q G0 H0 G1 H1 σ Q (s.go g1) (fun c G2 H2 g2 p2 => k c G2 H2 (s.tr g1 g2) (t1 c p1 p2)) fun C G' H' g x => kx C G' H' (s.tr g1 g) x)
    | false => exact iteF (k false G1 H1 g1 (t2 p1))) kx
theorem et_or {R1 R2 R : Bool → Prop} (h1 : Et K E tt Δ R1 X) (h2 : R1 false → Et K E tu Δ R2 X) (t1 : ∀ b, R1 false → R2 b → R b) (t2 : R1 true → R true) : Et K E (tOr tt tu) Δ R X := fun q G0 H0 G H σ Q s k kx =>
  h1 q G0 H0 G H σ _ s (fun b G1 H1 g1 p1 => by
    cases b with
    | false => exact iteF (h2 p1 q G0 H0 G1 H1 σ Q (s.go g1) (fun c G2 H2 g2 p2 => k c G2 H2 (s.tr g1 g2) (t1 c p1 p2)) fun C G' H' g x => kx C G' H' (s.tr g1 g) x)
    | true => exact iteT (k true G1 H1 g1 (t2 p1))) kx
theorem et_not {R : Bool → Prop} (h1 : Et K E tt Δ (fun b => R (!b)) X) : Et K E (tNot tt) Δ R X := fun q G0 H0 G H σ Q s k kx =>
  h1 q G0 H0 G H σ _ s (fun b G1 H1 g1 p1 => k (!b) G1 H1 g1 p1) kx
theorem et1_not {b : Bool} (h1 : Et K E tt Δ (· = b) X) : Et K E (tNot tt) Δ (· = !b) X := et_not (h1.imp fun d e => by rw [e])
theorem et1_and {a b : Bool} (h1 : Et K E tt Δ (· = a) X) (h2 : a = true → Et K E tu Δ (· = b) X) : Et K E (tAnd tt tu) Δ (· = (a && b)) X := by
  cases a with
  | true => exact et_and h1 (fun e => h2 rfl) (fun c e1 e2 => by rw [e2]; rfl) fun e => by cases e
  | false => exact et_and (R2 := fun _ => True) h1 (fun e => by cases e) (fun c e1 e2 => by cases e1) fun e => rfl
theorem et1_or {a b : Bool} (h1 : Et K E tt Δ (· = a) X) (h2 : a = false → Et K E tu Δ (· = b) X) : Et K E (tOr tt tu) Δ (· = (a || b)) X := by
  cases a with
  | false => exact et_or h1 (fun e => h2 rfl) (fun c e1 e2 => by rw [e2]; rfl) fun e => by cases e
  | true => exact et_or (R2 := fun _ => True) h1 (fun e => by cases e) (fun c e1 e2 => by cases e1) fun e => rfl
theorem et_is {b b' : Bool} (h : Et K E tt Δ (· = b) X) (e : b = b') : Et K E tt Δ (· = b') X := by subst e; exact h
/-! and, or, not, if as values -/
theorem ev_andV {R1 : Bool → Prop} (h1 : Ev K E ta Δ (fun d => ∃ b, d = .bl b ∧ R1 b) X) (h2 : R1 true → Ev K E tb Δ R X) (t2 : R1 false → R (.bl false)) : Ev K E (tAndV ta tb) Δ R X := fun q G0 H0 G H σ Q s k kx =>
  h1 q G0 H0 G H σ _ s (fun v d G1 H1 g1 r1 p1 => by
    obtain ⟨b, rfl, p⟩ := p1
    cases r1
    refine ⟨b, rfl, ?_⟩
    cases b with
    | true => exact iteT (h2 p q G0 H0 G1 H1 σ Q (s.go g1) (fun v c G2 H2 g2 r2 p2 => k v c G2 H2 (s.tr g1 g2) r2 p2) fun C G' H' g x => kx C G' H' (s.tr g1 g) x)
    | false => exact iteF (k _ _ G1 H1 g1 (.bl false) (t2 p))) kx
theorem ev_orV {R1 : Bool → Prop} (h1 : Ev K E ta Δ (fun d => ∃ b, d = .bl b ∧ R1 b) X) (h2 : R1 false → Ev K E tb Δ R X) (t2 : R1 true → R (.bl true)) : Ev K E (tOrV ta tb) Δ R X := fun q G0 H0 G H σ Q s k kx =>
  h1 q G0 H0 G H σ _ s (fun v d G1 H1 g1 r1 p1 => by
    obtain ⟨b, rfl, p⟩ := p1
    cases r1
    refine ⟨b, rfl, ?_⟩
    cases b with
    | false => exact iteF (h2 p q G0 H0 G1 H1 σ Q (s.go g1) (fun v c G2 H2 g2 r2 p2 => k v c G2 H2 (s.tr g1 g2) r2 p2) fun C G' H' g x => kx C G' H' (s.tr g1 g) x)
    | true => exact iteT (k _ _ G1 H1 g1 (.bl true) (t2 p))) kx
theorem ev1_andV {a b : Bool} (h1 : Ev K E ta Δ (· = .bl a) X) (h2 : a = true → Ev K E tb Δ (· = .bl b) X) : Ev K E (tAndV ta tb) Δ (· = .bl (a && b)) X := by
  cases a with
  | true => exact ev_andV (R1 := (· = true)) (h1.imp fun d e => ⟨true, e, rfl⟩) (fun e => (h2 rfl).imp fun d z => by rw [z]; rfl) fun e => by cases e
  | false => exact ev_andV (R1 := (· = false)) (h1.imp fun d e => ⟨false, e, rfl⟩) (fun e => by cases e) fun e => rfl
theorem ev1_orV {a b : Bool} (h1 : Ev K E ta Δ (· = .bl a) X) (h2 : a = false → Ev K E tb Δ (· = .bl b) X) : Ev K E (tOrV ta tb) Δ (· = .bl (a || b)) X := by
  cases a with
  | false => exact ev_orV (R1 := (· = false)) (h1.imp fun d e => ⟨false, e, rfl⟩) (fun e => (h2 rfl).imp fun d z => by rw [z]; rfl) fun e => by cases e
  | true => exact ev_orV (R1 := (· = true)) (h1.imp fun d e => ⟨true, e, rfl⟩) (fun e => by cases e) fun e => rfl
theorem ev_notV {R : Bool → Prop} (h1 : Ev K E ta Δ (fun d => ∃ b, d = .bl b ∧ R (!b)) X) : Ev K E (tNotV ta) Δ (fun d => ∃ b, d = .bl b ∧ R b) X := fun q G0 H0 G H σ Q s k kx =>
  h1 q G0 H0 G H σ _ s (fun v d G1 H1 g1 r1 p1 => by
    obtain ⟨b, rfl, p⟩ := p1
    cases r1
    exact ⟨b, rfl, k _ _ G1 H1 g1 (.bl (!b)) ⟨_, rfl, p⟩⟩) kx
theorem ev1_notV {a : Bool} (h1 : Ev K E ta Δ (· = .bl a) X) : Ev K E (tNotV ta) Δ (· = .bl (!a)) X :=
  (ev_notV (R := (· = !a)) (h1.imp fun d e => ⟨a, e, rfl⟩)).imp fun d ⟨b, e1, e2⟩ => by rw [e1, e2]
theorem ev_if {R1 : Bool → Prop} (h : Et K E tt Δ R1 X) (h1 : R1 true → Ev K E ta Δ R X) (h2 : R1 false → Ev K E tb Δ R X) : Ev K E (tIf tt ta tb) Δ R X := fun q G0 H0 G H σ Q s k kx =>
  h q G0 H0 G H σ _ s (fun b G1 H1 g1 p => by
    cases b with
    | true => exact iteT (h1 p q G0 H0 G1 H1 σ Q (s.go g1) (fun v c G2 H2 g2 r2 p2 => k v c G2 H2 (s.tr g1 g2) r2 p2) fun C G' H' g x => kx C G' H' (s.tr g1 g) x)
    | false => exact iteF (h2 p q G0 H0 G1 H1 σ Q (s.go g1) (fun v c G2 H2 g2 r2 p2 => k v c G2 H2 (s.tr g1 g2) r2 p2) fun C G' H' g x => kx C G' H' (s.tr g1 g) x)) kx
theorem ev1_if {b : Bool} {x y : D} (h : Et K E tt Δ (· = b) X) (h1 : b = true → Ev K E ta Δ (· = x) X) (h2 : b = false → Ev K E tb Δ (· = y) X) : Ev K E (tIf tt ta tb) Δ (· = if b = true then x else y) X := by
  cases b with
  | true => exact ev_if h (fun e => (h1 rfl).imp fun d z => z) fun e => by cases e
  | false => exact ev_if h (fun e => by cases e) fun e => (h2 rfl).imp fun d z => z
/-! arguments, displays -/
theorem ea_nil : Ea K E tNil Δ (· = []) X := fun q G0 H0 G H σ Q s k _ => k [] [] G H s.rf .nil rfl
theorem ea_cons {tr : TA} {Rs : List D → Prop} {R' : List D → Prop} (h : Ev K E ta Δ R X) (hr : ∀ d, R d → Ea K E tr Δ Rs X) (t : ∀ d ds, R d → Rs ds → R' (d :: ds)) : Ea K E (tCons ta tr) Δ R' X := fun q G0 H0 G H σ Q s k kx =>
  h q G0 H0 G H σ _ s (fun v d G1 H1 g1 r1 p1 => hr d p1 q G0 H0 G1 H1 σ _ (s.go g1) (fun vs ds G2 H2 g2 r2 p2 => k _ _ G2 H2 (s.tr g1 g2) (.cons (r1.ex g2.ex) r2) (t d ds p1 p2)) fun C G' H' g x => kx C G' H' (s.tr g1 g) x) kx
theorem ea1_cons {tr : TA} {d : D} {ds : List D} (h : Ev K E ta Δ (· = d) X) (hr : Ea K E tr Δ (· = ds) X) : Ea K E (tCons ta tr) Δ (· = d :: ds) X := ea_cons h (fun _ _ => hr) fun a b e1 e2 => by rw [e1, e2]
theorem ev_tup {tr : TA} {Rs : List D → Prop} (h : Ea K E tr Δ Rs X) (hl : ∀ ds, Rs ds → ds.length ≤ sizeLine) (t : ∀ ds, Rs ds → R (.tup ds)) : Ev K E (tTup tr) Δ R X := fun q G0 H0 G H σ Q s k kx =>
  h q G0 H0 G H σ _ s (fun vs ds G1 H1 g1 r1 p1 => ⟨by rw [r1.length]; exact hl ds p1, fun p hp =>
    have g := Gr.new (o := .tup vs) g1.sub hp
    k _ _ _ _ (s.tr g1 g.any) (.tup (.inl (.inl upd_same)) (r1.ex g.ex)) (t ds p1)⟩) kx
theorem ev_lst {tr : TA} {Rs : List D → Prop} (h : Ea K E tr Δ Rs X) (hl : ∀ ds, Rs ds → ds.length ≤ sizeLine) (t : ∀ ds, Rs ds → R (.lst ds)) : Ev K E (tLst tr) Δ R X := fun q G0 H0 G H σ Q s k kx =>
  h q G0 H0 G H σ _ s (fun vs ds G1 H1 g1 r1 p1 => ⟨by rw [r1.length]; exact hl ds p1, fun p hp =>
    have g := Gr.new (o := .lst vs) g1.sub hp
    k _ _ _ _ (s.tr g1 g.any) (.lst upd_same (r1.ex g.ex)) (t ds p1)⟩) kx
theorem szl {n : Nat} (h : n ≤ 1000000 := by first | decide | (simp; done)) : n ≤ sizeLine := Nat.le_trans h (by rw [sizeLine_eq]; decide)
theorem szlt {n : Nat} (h : n < 1000000) : n < sizeLine := Nat.lt_of_lt_of_le h (by rw [sizeLine_eq]; decide)
theorem ev1_tup {tr : TA} {ds : List D} (h : Ea K E tr Δ (· = ds) X) (hl : ds.length ≤ sizeLine := by exact szl) : Ev K E (tTup tr) Δ (· = .tup ds) X := ev_tup h (fun _ e => by rw [e]; exact hl) fun _ e => by rw [e]
theorem ev1_lst {tr : TA} {ds : List D} (h : Ea K E tr Δ (· = ds) X) (hl : ds.length ≤ sizeLine := by exact szl) : Ev K E (tLst tr) Δ (· = .lst ds) X := ev_lst h (fun _ e => by rw [e]; exact hl) fun _ e => by rw [e]
theorem ev_cb {r : List V → Hp → VK → Prop} {tr : TA} {Rs : List D → Prop} (h : Ea K E tr Δ Rs X) (hr : ∀ ds, Rs ds → CbD K r ds R) : Ev K E (tCB r tr) Δ R X := fun q G0 H0 G H σ Q s k kx =>
  h q G0 H0 G H σ _ s (fun vs ds G1 H1 g1 r1 p1 => hr ds p1 G1 H1 vs Q g1.sub r1 fun u d G3 H3 g rd p3 => k u d G3 H3 (s.tr g1 g.any) rd p3) kx
theorem ev1_cb {r : List V → Hp → VK → Prop} {tr : TA} {ds : List D} {d : D} (h : Ea K E tr Δ (· = ds) X) (hr : CbD K r ds (· = d)) : Ev K E (tCB r tr) Δ (· = d) X := ev_cb h fun _ e => by subst e; exact hr
/-! slices -/
theorem eo_none : Eo K E tNoPart Δ (· = none) X := fun q G0 H0 G H σ Q s k _ => k none G H s.rf rfl
theorem eo_some {Ro : Option Int → Prop} (h : Ev K E te Δ (fun d => ∃ i, d = .int i ∧ Ro (some i)) X) : Eo K E (tPart te) Δ Ro X := fun q G0 H0 G H σ Q s k kx =>
  h q G0 H0 G H σ _ s (fun v d G1 H1 g1 r1 p1 => by
    obtain ⟨i, rfl, p⟩ := p1
    cases r1
    exact ⟨i, rfl, k _ G1 H1 g1 p⟩) kx
theorem eo1_some {i : Int} (h : Ev K E te Δ (· = .int i) X) : Eo K E (tPart te) Δ (· = some i) X := eo_some (h.imp fun d e => ⟨i, e, rfl⟩)
theorem ev_sl {r : V → Option Int → Option Int → Hp → VK → Prop} {tl th : TO} {Rl Rh : Option Int → Prop} (h : Ev K E te Δ Ra X) (h1 : Eo K E tl Δ Rl X) (h2 : Eo K E th Δ Rh X) (hr : ∀ x l u, Ra x → Rl l → Rh u → SlD K r x l u R) : Ev K E (tSl r te tl th) Δ R X := fun q G0 H0 G H σ Q s k kx =>
  h q G0 H0 G H σ _ s (fun v x G1 H1 g1 r1 p1 => h1 q G0 H0 G1 H1 σ _ (s.go g1) (fun l G2 H2 g2 p2 => h2 q G0 H0 G2 H2 σ _ (s.go (s.tr g1 g2)) (fun u G3 H3 g3 p3 =>
    hr x l u p1 p2 p3 G3 H3 v Q g3.sub (r1.ex (g2.ex.trans g3.ex)) fun z d G4 H4 g rd p4 => k z d G4 H4 (s.tr (s.tr (s.tr g1 g2) g3) g.any) rd p4) fun C G' H' g x => kx C G' H' (s.tr (s.tr g1 g2) g) x) fun C G' H' g x => kx C G' H' (s.tr g1 g) x) kx
theorem ev1_sl {r : V → Option Int → Option Int → Hp → VK → Prop} {tl th : TO} {lo hi : Option Int} {x d : D} (h : Ev K E te Δ (· = x) X) (h1 : Eo K E tl Δ (· = lo) X) (h2 : Eo K E th Δ (· = hi) X) (hr : SlD K r x lo hi (· = d)) : Ev K E (tSl r te tl th) Δ (· = d) X :=
  ev_sl h h1 h2 fun a b c e1 e2 e3 => by subst e1; subst e2; subst e3; exact hr
/-! fields of a frozen instance -/
theorem ev_fld {f : Str} {C : Addr} {fs : List (Str × D)} {d : D} (h : Ev K E ta Δ (· = .obj C fs) X) (hc : Cls K C) (hn : NoAttr K C f) (hl : fs.lookup f = some d) : Ev K E (tFld K ta f) Δ (· = d) X := fun q G0 H0 G H σ Q s k kx =>
  h q G0 H0 G H σ _ s (fun v x G1 H1 g1 r1 p1 => by
    subst p1
    obtain ⟨a, dx, vs, rfl, ho, rf⟩ := r1.obj_inv
    obtain ⟨u, hu, ru⟩ := rf.look hl
    exact ⟨a, C, dx, vs, u, rfl, g1.sub.i ho, hc, hn, hu, k u d G1 H1 g1 ru rfl⟩) kx

/-! ### calls: promises over data -/
inductive Res where
  | ret (d : D) | exc (C : Addr)
/-- a def of data -/
def spD (K : PySem.W.Frag) (pre : List D → Prop) (post : List D → Res → Prop) : Sp := fun vs H Q E => ∃ (G : Hp) (ds : List D), Exx G H ∧ TbOk H ∧ RpL K G vs ds ∧ pre ds ∧
  (∀ (v : V) (d : D) (G' H' : Hp), Gr none G H G' H' → Rp K G' v d → post ds (.ret d) → Q v H') ∧ (∀ (C : Addr) (G' H' : Hp), Gr none G H G' H' → post ds (.exc C) → E (.ref C) none H')
/-- a def that gets the dice ahead of data -/
def spQ (K : PySem.W.Frag) (pre : List D → Prop) (post : List D → Res → Prop) : Sp := fun vs H Q E => ∃ (G : Hp) (a : Addr) (ws : List V) (ds : List D), vs = .ref a :: ws ∧ Exx G H ∧ Nt G a ∧ DiceAt H a ∧ TbOk H ∧ RpL K G ws ds ∧ pre ds ∧
  (∀ (v : V) (d : D) (G' H' : Hp), Gr (some a) G H G' H' → Rp K G' v d → post ds (.ret d) → Q v H') ∧ (∀ (C : Addr) (G' H' : Hp), Gr (some a) G H G' H' → post ds (.exc C) → E (.ref C) none H')
theorem ev_call {tr : TA} {Rs : List D → Prop} {pre : List D → Prop} {post : List D → Res → Prop} (h : Ea K E tr Δ Rs X) (hp : ∀ ds, Rs ds → pre ds) (hr : ∀ ds d, Rs ds → post ds (.ret d) → R d) (hx : ∀ ds C, Rs ds → post ds (.exc C) → X C) :
    Ev K E (tCallS (spD K pre post) E tr) Δ R X := fun q G0 H0 G H σ Q s k kx =>
  h q G0 H0 G H σ _ s (fun vs ds G1 H1 g1 r1 p1 => ⟨G1, ds, g1.sub, (s.go g1).rs.tb, r1, hp ds p1, fun v d G' H' g rd po => k v d G' H' (s.tr g1 g.any) rd (hr ds d p1 po), fun C G' H' g po => kx C G' H' (s.tr g1 g.any) (hx ds C p1 po)⟩) kx
theorem ev1_call {tr : TA} {ds : List D} {pre : List D → Prop} {post : List D → Res → Prop} {d : D} (h : Ea K E tr Δ (· = ds) X) (hp : pre ds) (hr : ∀ e, post ds (.ret e) → e = d) (hx : ∀ C, post ds (.exc C) → X C) :
    Ev K E (tCallS (spD K pre post) E tr) Δ (· = d) X := ev_call h (fun _ e => by rw [e]; exact hp) (fun _ e z => by rw [z]; exact hr e) fun _ C z => by rw [z]; exact hx C
theorem ev_callq {tr : TA} {Rs : List D → Prop} {pre : List D → Prop} {post : List D → Res → Prop} {i : Nat} (hi : Δ[i]? = some Sl.dice) (h : Ea K E tr Δ Rs X) (hp : ∀ ds, Rs ds → pre ds) (hr : ∀ ds d, Rs ds → post ds (.ret d) → R d)
    (hx : ∀ ds C, Rs ds → post ds (.exc C) → X C) : Ev K E (tCallS (spQ K pre post) E (tCons (tVar i) tr)) Δ R X := fun q G0 H0 G H σ Q s k kx => by
  obtain ⟨a, rfl, ha⟩ := s.rs.dice i hi
  refine ⟨_, ha, ?_⟩
  refine h (some a) G0 H0 G H σ _ s (fun vs ds G1 H1 g1 r1 p1 => ?_) kx
  obtain ⟨n1, d1⟩ := (s.go g1).rs.gq a rfl
  exact ⟨G1, a, vs, ds, rfl, g1.sub, n1, d1, (s.go g1).rs.tb, r1, hp ds p1, fun v d G' H' g rd po => k v d G' H' (s.tr g1 g) rd (hr ds d p1 po), fun C G' H' g po => kx C G' H' (s.tr g1 g) (hx ds C p1 po)⟩
end
end Ts


namespace Ts
variable [Tt]
open PySem L2

/-! ### statements -/
inductive Out where
  | nx (Δ : En) | rt (d : D) | bk (Δ : En) | ct (Δ : En) | ex (C : Addr) (Δ : En)
def Xs (K : PySem.W.Frag) (W : WX) (t : TS) (Δ : En) (post : Out → Prop) : Prop :=
  ∀ (q : Qd) (G0 H0 G H : Hp) (σ : L2.St) (T : Ends), Sta K q G0 H0 G H σ Δ →
    (∀ (σ' : L2.St) (Δ' : En) (G' H' : Hp), Exx G G' → Sta K q G0 H0 G' H' σ' Δ' → post (.nx Δ') → T.nx σ' H') →
    (∀ (v : V) (d : D) (G' H' : Hp), Gr q G0 H0 G' H' → Rp K G' v d → post (.rt d) → T.rt v H') →
    (∀ (σ' : L2.St) (Δ' : En) (G' H' : Hp), Exx G G' → Sta K q G0 H0 G' H' σ' Δ' → post (.bk Δ') → T.bk σ' H') →
    (∀ (σ' : L2.St) (Δ' : En) (G' H' : Hp), Exx G G' → Sta K q G0 H0 G' H' σ' Δ' → post (.ct Δ') → T.ct σ' H') →
    (∀ (C : Addr) (σ' : L2.St) (Δ' : En) (G' H' : Hp), Exx G G' → Sta K q G0 H0 G' H' σ' Δ' → post (.ex C Δ') → W (.ref C) none σ' H') → t T σ H
def thenP (K : PySem.W.Frag) (W : WX) (u : TS) (post : Out → Prop) : Out → Prop
  | .nx Δ => Xs K W u Δ post
  | o => post o
section
variable {K : PySem.W.Frag} {W : WX} {Δ : En} {t u : TS} {post post' : Out → Prop} {te ta tb : TE} {tt : TT} {R : D → Prop} {X : Addr → Prop}
theorem Xs.imp (h : Xs K W t Δ post) (hp : ∀ o, post o → post' o) : Xs K W t Δ post' := fun q G0 H0 G H σ T s k1 k2 k3 k4 k5 =>
  h q G0 H0 G H σ T s (fun σ' Δ' G' H' e s' p => k1 σ' Δ' G' H' e s' (hp _ p)) (fun v d G' H' g r p => k2 v d G' H' g r (hp _ p)) (fun σ' Δ' G' H' e s' p => k3 σ' Δ' G' H' e s' (hp _ p)) (fun σ' Δ' G' H' e s' p => k4 σ' Δ' G' H' e s' (hp _ p))
    fun C σ' Δ' G' H' e s' p => k5 C σ' Δ' G' H' e s' (hp _ p)
theorem xs_seq (h : Xs K W t Δ (thenP K W u post)) : Xs K W (tSeq t u) Δ post := fun q G0 H0 G H σ T s k1 k2 k3 k4 k5 =>
  h q G0 H0 G H σ { T with nx := u T } s (fun σ' Δ' G' H' e s' p => (show Xs K W u Δ' post from p) q G0 H0 G' H' σ' T s' (fun σ2 Δ2 G2 H2 e2 s2 p2 => k1 σ2 Δ2 G2 H2 (e.trans e2) s2 p2) k2 (fun σ2 Δ2 G2 H2 e2 s2 p2 => k3 σ2 Δ2 G2 H2 (e.trans e2) s2 p2)
    (fun σ2 Δ2 G2 H2 e2 s2 p2 => k4 σ2 Δ2 G2 H2 (e.trans e2) s2 p2) fun C σ2 Δ2 G2 H2 e2 s2 p2 => k5 C σ2 Δ2 G2 H2 (e.trans e2) s2 p2) k2 k3 k4 k5
theorem xs_next (h : post (.nx Δ)) : Xs K W tNext Δ post := fun q G0 H0 G H σ T s k1 k2 k3 k4 k5 => k1 σ Δ G H (Exx.refl _) s h
theorem xs_brk (h : post (.bk Δ)) : Xs K W tBreak Δ post := fun q G0 H0 G H σ T s k1 k2 k3 k4 k5 => k3 σ Δ G H (Exx.refl _) s h
theorem xs_cont (h : post (.ct Δ)) : Xs K W tCont Δ post := fun q G0 H0 G H σ T s k1 k2 k3 k4 k5 => k4 σ Δ G H (Exx.refl _) s h
theorem xs_expr (h : Ev K (WE W) te Δ R X) (hx : ∀ C, X C → post (.ex C Δ)) (k : post (.nx Δ)) : Xs K W (tDrop te) Δ post := fun q G0 H0 G H σ T s k1 k2 k3 k4 k5 =>
  h q G0 H0 G H σ _ s (fun v d G1 H1 g1 r1 p1 => k1 σ Δ G1 H1 g1.ex (s.go g1) k) fun C G1 H1 g x => k5 C σ Δ G1 H1 g.ex (s.go g) (hx C x)
theorem xs_ret (h : Ev K (WE W) te Δ R X) (hx : ∀ C, X C → post (.ex C Δ)) (k : ∀ d, R d → post (.rt d)) : Xs K W (tRet te) Δ post := fun q G0 H0 G H σ T s k1 k2 k3 k4 k5 =>
  h q G0 H0 G H σ _ s (fun v d G1 H1 g1 r1 p1 => k2 v d G1 H1 (s.go g1).gr r1 (k d p1)) fun C G1 H1 g x => k5 C σ Δ G1 H1 g.ex (s.go g) (hx C x)
theorem xs1_ret {d : D} (h : Ev K (WE W) te Δ (· = d) fun _ => False) (k : post (.rt d)) : Xs K W (tRet te) Δ post := xs_ret h (fun _ z => z.elim) fun e z => by rw [z]; exact k
theorem xs_retN (k : post (.rt .non)) : Xs K W tRetN Δ post := fun q G0 H0 G H σ T s k1 k2 k3 k4 k5 => k2 .non .non G H s.gr .non k
theorem xs_asg {i : Nat} (h : Ev K (WE W) te Δ R X) (hx : ∀ C, X C → post (.ex C Δ)) (k : ∀ d, R d → post (.nx (Δ.set i (.dat d)))) : Xs K W (tAsg te (gName i)) Δ post := fun q G0 H0 G H σ T s k1 k2 k3 k4 k5 =>
  h q G0 H0 G H σ _ s (fun v d G1 H1 g1 r1 p1 => k1 _ _ G1 H1 g1.ex ((s.go g1).set r1) (k d p1)) fun C G1 H1 g x => k5 C σ Δ G1 H1 g.ex (s.go g) (hx C x)
theorem xs1_asg {i : Nat} {d : D} (h : Ev K (WE W) te Δ (· = d) fun _ => False) (k : post (.nx (Δ.set i (.dat d)))) : Xs K W (tAsg te (gName i)) Δ post := xs_asg h (fun _ z => z.elim) fun e z => by rw [z]; exact k
theorem xs_if {Rt : Bool → Prop} (h : Et K (WE W) tt Δ Rt X) (hx : ∀ C, X C → post (.ex C Δ)) (h1 : Rt true → Xs K W t Δ post) (h2 : Rt false → Xs K W u Δ post) : Xs K W (tIfS tt t u) Δ post := fun q G0 H0 G H σ T s k1 k2 k3 k4 k5 =>
  h q G0 H0 G H σ _ s (fun b G1 H1 g1 p1 => by
    have go : ∀ {z : TS}, Xs K W z Δ post → z T σ H1 := fun {z} hz => hz q G0 H0 G1 H1 σ T (s.go g1) (fun σ2 Δ2 G2 H2 e2 s2 p2 => k1 σ2 Δ2 G2 H2 (g1.ex.trans e2) s2 p2) k2 (fun σ2 Δ2 G2 H2 e2 s2 p2 => k3 σ2 Δ2 G2 H2 (g1.ex.trans e2) s2 p2)
      (fun σ2 Δ2 G2 H2 e2 s2 p2 => k4 σ2 Δ2 G2 H2 (g1.ex.trans e2) s2 p2) fun C σ2 Δ2 G2 H2 e2 s2 p2 => k5 C σ2 Δ2 G2 H2 (g1.ex.trans e2) s2 p2
    cases b with
    | true => exact iteT (go (h1 p1))
    | false => exact iteF (go (h2 p1))) fun C G1 H1 g x => k5 C σ Δ G1 H1 g.ex (s.go g) (hx C x)
theorem xs1_if {b : Bool} (h : Et K (WE W) tt Δ (· = b) fun _ => False) (h1 : b = true → Xs K W t Δ post) (h2 : b = false → Xs K W u Δ post) : Xs K W (tIfS tt t u) Δ post := xs_if h (fun _ z => z.elim) (fun e => h1 e.symm) fun e => h2 e.symm
/-! own lists -/
theorem xs_new {i : Nat} {tr : TA} {Rs : List D → Prop} (h : Ea K (WE W) tr Δ Rs X) (hx : ∀ C, X C → post (.ex C Δ)) (hl : ∀ ds, Rs ds → ds.length ≤ sizeLine) (k : ∀ ds, Rs ds → post (.nx (Δ.set i (.own ds)))) : Xs K W (tAsg (tLst tr) (gName i)) Δ post := fun q G0 H0 G H σ T s k1 k2 k3 k4 k5 =>
  h q G0 H0 G H σ _ s (fun vs ds G1 H1 g1 r1 p1 => ⟨by rw [r1.length]; exact hl ds p1, fun p hp => k1 _ _ G1 _ g1.ex ((s.go g1).newMut hp r1) (k ds p1)⟩) fun C G1 H1 g x => k5 C σ Δ G1 H1 g.ex (s.go g) (hx C x)
theorem xs_new0 {i : Nat} (k : post (.nx (Δ.set i (.own [])))) : Xs K W (tAsg (tLst tNil) (gName i)) Δ post := xs_new (X := fun _ => False) ea_nil (fun _ z => z.elim) (fun _ e => by rw [e]; exact szl) fun ds e => by rw [e]; exact k
theorem xs_freeze {i : Nat} {ds : List D} (hi : Δ[i]? = some (Sl.own ds)) (h : Xs K W t (Δ.set i (.dat (.lst ds))) post) : Xs K W t Δ post := fun q G0 H0 G H σ T s k1 k2 k3 k4 k5 => by
  obtain ⟨G1, e1, s1⟩ := s.freeze hi
  exact h q G0 H0 G1 H σ T s1 (fun σ2 Δ2 G2 H2 e2 s2 p2 => k1 σ2 Δ2 G2 H2 (e1.trans e2) s2 p2) k2 (fun σ2 Δ2 G2 H2 e2 s2 p2 => k3 σ2 Δ2 G2 H2 (e1.trans e2) s2 p2)
      (fun σ2 Δ2 G2 H2 e2 s2 p2 => k4 σ2 Δ2 G2 H2 (e1.trans e2) s2 p2) fun C σ2 Δ2 G2 H2 e2 s2 p2 => k5 C σ2 Δ2 G2 H2 (e1.trans e2) s2 p2
theorem xs_ret_own {i : Nat} {ds : List D} (hi : Δ[i]? = some (Sl.own ds)) (k : post (.rt (.lst ds))) : Xs K W (tRet (tVar i)) Δ post :=
  xs_freeze hi (xs1_ret (ev_var (by
    have hl : i < Δ.length := (List.getElem?_eq_some_iff.mp hi).1
    exact List.getElem?_set_self hl)) k)
/-- xs.append(e), xs a list of one's own -/
theorem xs_app {i : Nat} {ds : List D} (hi : Δ[i]? = some (Sl.own ds)) (hl : ds.length < sizeLine) (h : Ev K (WE W) te Δ R X) (hx : ∀ C, X C → post (.ex C Δ)) (k : ∀ d, R d → post (.nx (Δ.set i (.own (ds ++ [d]))))) :
    Xs K W (tDrop (tBM K "list" rAppend (tVar i) (tCons te tNil))) Δ post := fun q G0 H0 G H σ T s k1 k2 k3 k4 k5 => by
  obtain ⟨p, vs, h1, h2, h3, h4, h5, h6⟩ := s.rs.own i ds hi
  refine ⟨_, h1, .inl ⟨rfl, vs, .inl (.inl h2)⟩, ?_⟩
  refine h q G0 H0 G H σ _ s (fun v d G1 H1 g1 r1 p1 => ?_) fun C G1 H1 g x => k5 C σ Δ G1 H1 g.ex (s.go g) (hx C x)
  have s1 := s.go g1
  refine ⟨p, vs, v, rfl, rfl, g1.kl h6 h2, by rw [h3.length]; exact hl, ?_⟩
  exact k1 σ _ G1 _ g1.ex (s1.change hi h1 ((h3.ex g1.ex).append (.cons r1 .nil))) (k d p1)
theorem xs1_app {i : Nat} {ds : List D} {d : D} (hi : Δ[i]? = some (Sl.own ds)) (hl : ds.length < sizeLine) (h : Ev K (WE W) te Δ (· = d) fun _ => False) (k : post (.nx (Δ.set i (.own (ds ++ [d]))))) :
    Xs K W (tDrop (tBM K "list" rAppend (tVar i) (tCons te tNil))) Δ post := xs_app hi hl h (fun _ z => z.elim) fun e z => by rw [z]; exact k
/-- the length, an item of a list of one's own -/
def rLenC (K : PySem.W.Frag) : List V → Hp → VK → Prop := fun xs H Q => ∃ x n, xs = [x] ∧ LenV K x H n ∧ Q (.int n) H
theorem ev_len_own {E : L2.St → XK} {i : Nat} {ds : List D} (hi : Δ[i]? = some (Sl.own ds)) : Ev K E (tCB (rLenC K) (tCons (tVar i) tNil)) Δ (· = .int ds.length) X := fun q G0 H0 G H σ Q s k kx => by
  obtain ⟨p, vs, h1, h2, h3, h4, h5, h6⟩ := s.rs.own i ds hi
  exact ⟨_, h1, _, vs.length, rfl, .inl ⟨vs, .inl (.inl h2), rfl⟩, by rw [h3.length]; exact k _ _ G H s.rf (.int _) rfl⟩
theorem ev_ix_own {E : L2.St → XK} {i : Nat} {ds : List D} {j : Int} {d : D} (hi : Δ[i]? = some (Sl.own ds)) (h : Ev K E te Δ (· = .int j) X) (hd : atI ds j = some d) : Ev K E (tOp (rIx K) (tVar i) te) Δ (· = d) X := fun q G0 H0 G H σ Q s k kx => by
  obtain ⟨p, vs, h1, h2, h3, h4, h5, h6⟩ := s.rs.own i ds hi
  refine ⟨_, h1, ?_⟩
  refine h q G0 H0 G H σ _ s (fun v z G1 H1 g1 r1 p1 => ?_) kx
  subst p1
  cases r1
  have a1 : ∃ v, atI vs j = some v ∧ Rp K G v d := by
    unfold atI at hd ⊢
    rw [h3.length]
    cases e : ixN ds.length j with
    | none => rw [e] at hd; cases hd
    | some l =>
      rw [e] at hd
      exact h3.get hd
  obtain ⟨v, a2, a3⟩ := a1
  exact .inl ⟨p, vs, j, v, rfl, rfl, .inl (.inl (g1.kl h6 h2)), a2, k v d G1 H1 g1 (a3.ex g1.ex) rfl⟩

/-! ### targets -/
/-- the target g takes d; it stores at js -/
def Tg (K : PySem.W.Frag) (g : TG) (js : List Nat) (Δ : En) (d : D) (Δ' : En) : Prop := ∀ (q : Qd) (G0 H0 G H : Hp) (σ : L2.St) (v : V) (Q : L2.St → Hp → Prop), Sta K q G0 H0 G H σ Δ → Rp K G v d →
  (∀ σ', Sta K q G0 H0 G H σ' Δ' → (∀ vs : List Nat, (∀ j ∈ js, j ∈ vs) → wipe σ' vs = wipe σ vs) → Q σ' H) → g v σ H Q
def TgS (K : PySem.W.Frag) (g : TGs) (js : List Nat) (Δ : En) (ds : List D) (Δ' : En) : Prop := ∀ (q : Qd) (G0 H0 G H : Hp) (σ : L2.St) (vs : List V) (Q : L2.St → Hp → Prop), Sta K q G0 H0 G H σ Δ → RpL K G vs ds →
  (∀ σ', Sta K q G0 H0 G H σ' Δ' → (∀ vs : List Nat, (∀ j ∈ js, j ∈ vs) → wipe σ' vs = wipe σ vs) → Q σ' H) → g vs σ H Q
theorem wipe_set_in {σ : L2.St} {j : Nat} {x : Option V} : ∀ {vs : List Nat}, j ∈ vs → wipe (σ.set j x) vs = wipe σ vs
  | v :: vs, h => by
    unfold wipe
    by_cases c : j ∈ vs
    · rw [wipe_set_in c]
    · have e : j = v := by
        rcases List.mem_cons.mp h with e | e
        · exact e
        · exact absurd e c
      subst e
      have : wipe (σ.set j x) vs = (wipe σ vs).set j x := by
        clear h
        induction vs with
        | nil => rfl
        | cons w ws ih =>
          have n1 : j ≠ w := fun z => c (by rw [z]; exact List.mem_cons_self)
          have n2 : j ∉ ws := fun z => c (List.mem_cons_of_mem _ z)
          unfold wipe
          rw [ih n2, List.set_comm _ _ n1]
      rw [this, List.set_set]
theorem tg_name {i : Nat} {d : D} : Tg K (gName i) [i] Δ d (Δ.set i (.dat d)) := fun q G0 H0 G H σ v Q s r k => k _ (s.set r) fun vs h => wipe_set_in (h i List.mem_cons_self)
theorem tgs_nil : TgS K gNil [] Δ [] Δ := fun q G0 H0 G H σ vs Q s r k => by
  cases r
  exact ⟨rfl, k _ s fun _ _ => rfl⟩
theorem tgs_cons {g : TG} {gs : TGs} {js js' : List Nat} {d : D} {ds : List D} {Δ1 Δ2 : En} (h : Tg K g js Δ d Δ1) (hs : TgS K gs js' Δ1 ds Δ2) : TgS K (gCons g gs) (js ++ js') Δ (d :: ds) Δ2 := fun q G0 H0 G H σ vs Q s r k => by
  cases r with
  | cons r1 r2 =>
    exact ⟨_, _, rfl, h q G0 H0 G H σ _ _ s r1 fun σ1 s1 w1 => hs q G0 H0 G H σ1 _ Q s1 r2 fun σ2 s2 w2 => k σ2 s2 fun vs hv => (w2 vs fun j hj => hv j (List.mem_append_right _ hj)).trans (w1 vs fun j hj => hv j (List.mem_append_left _ hj))⟩
theorem tg_tup {gs : TGs} {js : List Nat} {n : Nat} {ds : List D} {Δ1 : En} (h : TgS K gs js Δ ds Δ1) (hn : ds.length = n) : Tg K (gTup K n gs) js Δ (.tup ds) Δ1 := fun q G0 H0 G H σ v Q s r k => by
  obtain ⟨a, xs, rfl, h1, h2⟩ := r.tup_inv
  exact ⟨a, xs, rfl, st_ex s.sub h1, by rw [h2.length]; exact hn, h q G0 H0 G H σ xs Q s h2 k⟩
theorem tg2 {i j : Nat} {a b : D} : Tg K (gTup K 2 (gCons (gName i) (gCons (gName j) gNil))) [i, j] Δ (.tup [a, b]) ((Δ.set i (.dat a)).set j (.dat b)) := tg_tup (tgs_cons tg_name (tgs_cons tg_name tgs_nil)) rfl
theorem tg3 {i j l : Nat} {a b c : D} : Tg K (gTup K 3 (gCons (gName i) (gCons (gName j) (gCons (gName l) gNil)))) [i, j, l] Δ (.tup [a, b, c]) (((Δ.set i (.dat a)).set j (.dat b)).set l (.dat c)) := tg_tup (tgs_cons tg_name (tgs_cons tg_name (tgs_cons tg_name tgs_nil))) rfl
theorem xs_asgT {g : TG} {js : List Nat} (h : Ev K (WE W) te Δ R X) (hx : ∀ C, X C → post (.ex C Δ)) (k : ∀ d, R d → ∃ Δ', Tg K g js Δ d Δ' ∧ post (.nx Δ')) : Xs K W (tAsg te g) Δ post := fun q G0 H0 G H σ T s k1 k2 k3 k4 k5 =>
  h q G0 H0 G H σ _ s (fun v d G1 H1 g1 r1 p1 => by
    obtain ⟨Δ', ht, hp⟩ := k d p1
    exact ht q G0 H0 G1 H1 σ v _ (s.go g1) r1 fun σ' s' _ => k1 σ' Δ' G1 H1 g1.ex s' hp) fun C G1 H1 g x => k5 C σ Δ G1 H1 g.ex (s.go g) (hx C x)
theorem xs1_asgT {g : TG} {js : List Nat} {d : D} {Δ' : En} (h : Ev K (WE W) te Δ (· = d) fun _ => False) (ht : Tg K g js Δ d Δ') (k : post (.nx Δ')) : Xs K W (tAsg te g) Δ post := xs_asgT h (fun _ z => z.elim) fun e z => ⟨Δ', by rw [z]; exact ht, k⟩
/-- a, b = x, y -/
theorem xs_par {i j : Nat} {tr : TA} {Rs : List D → Prop} (h : Ea K (WE W) tr Δ Rs X) (hx : ∀ C, X C → post (.ex C Δ)) (k : ∀ ds, Rs ds → ∃ a b, ds = [a, b] ∧ post (.nx ((Δ.set i (.dat a)).set j (.dat b)))) : Xs K W (tPar i j tr) Δ post := fun q G0 H0 G H σ T s k1 k2 k3 k4 k5 =>
  h q G0 H0 G H σ _ s (fun vs ds G1 H1 g1 r1 p1 => by
    obtain ⟨a, b, rfl, hp⟩ := k ds p1
    cases r1 with
    | cons ra rr =>
      cases rr with
      | cons rb rr =>
        cases rr
        exact ⟨_, _, rfl, k1 _ _ G1 H1 g1.ex (((s.go g1).set ra).set rb) hp⟩) fun C G1 H1 g x => k5 C σ Δ G1 H1 g.ex (s.go g) (hx C x)
theorem xs1_par {i j : Nat} {tr : TA} {a b : D} (h : Ea K (WE W) tr Δ (· = [a, b]) fun _ => False) (k : post (.nx ((Δ.set i (.dat a)).set j (.dat b)))) : Xs K W (tPar i j tr) Δ post := xs_par h (fun _ z => z.elim) fun ds z => ⟨a, b, z, k⟩
theorem xs_par3 {i j l : Nat} {tr : TA} {Rs : List D → Prop} (h : Ea K (WE W) tr Δ Rs X) (hx : ∀ C, X C → post (.ex C Δ)) (k : ∀ ds, Rs ds → ∃ a b c, ds = [a, b, c] ∧ post (.nx (((Δ.set i (.dat a)).set j (.dat b)).set l (.dat c)))) : Xs K W (tPar3 i j l tr) Δ post := fun q G0 H0 G H σ T s k1 k2 k3 k4 k5 =>
  h q G0 H0 G H σ _ s (fun vs ds G1 H1 g1 r1 p1 => by
    obtain ⟨a, b, c, rfl, hp⟩ := k ds p1
    cases r1 with
    | cons ra rr =>
      cases rr with
      | cons rb rr =>
        cases rr with
        | cons rc rr =>
          cases rr
          exact ⟨_, _, _, rfl, k1 _ _ G1 H1 g1.ex ((((s.go g1).set ra).set rb).set rc) hp⟩) fun C G1 H1 g x => k5 C σ Δ G1 H1 g.ex (s.go g) (hx C x)
theorem xs1_par3 {i j l : Nat} {tr : TA} {a b c : D} (h : Ea K (WE W) tr Δ (· = [a, b, c]) fun _ => False) (k : post (.nx (((Δ.set i (.dat a)).set j (.dat b)).set l (.dat c)))) : Xs K W (tPar3 i j l tr) Δ post := xs_par3 h (fun _ z => z.elim) fun ds z => ⟨a, b, c, z, k⟩
/-- a, b = [], y, the list one's own -/
theorem xs_par0 {i j : Nat} (hij : i ≠ j) (h : Ev K (WE W) te Δ R X) (hx : ∀ C, X C → post (.ex C Δ)) (k : ∀ d, R d → post (.nx ((Δ.set j (.dat d)).set i (.own [])))) : Xs K W (tPar i j (tCons (tLst tNil) (tCons te tNil))) Δ post := fun q G0 H0 G H σ T s k1 k2 k3 k4 k5 => by
  refine ⟨Nat.zero_le _, fun p hp => ?_⟩
  have g0 : Gr none G H G (upd H p (.lst [])) :=
    ⟨Exx.refl G, fun _ _ e => .inl e, fun a o e nt => by rw [upd_ne (ne_of_none (s.sub a o e nt) hp)]; exact s.sub a o e nt, fun a o _ e _ => by rw [upd_ne (ne_of_none e hp)]; exact e, Tbd.new hp, fun _ z => nomatch z⟩
  have s0 := s.go g0.any
  have hGp : Nt G p := fun o c => Classical.byContradiction fun n => by
    rw [s.sub p o c (fun ps z => n ⟨ps, z⟩)] at hp; cases hp
  have hH0 : Nt H0 p := s.gr.live s.hq (.of hp)
  have hqp : q ≠ some p := fun c => by
    obtain ⟨x, y, z, e⟩ := s.dq p c
    rw [hp] at e; cases e
  refine h q G0 H0 G _ σ _ s0 (fun v d G1 H1 g1 r1 p1 => ?_) fun C G1 H1 g x => k5 C σ Δ G1 H1 g.ex (s0.go g) (hx C x)
  have s1 := s0.go g1
  have hp1 : H1 p = some (.lst []) := g1.kl hqp upd_same
  have hG1 : Nt G1 p := g1.un hGp upd_same
  have other : ∀ (l : Nat) (as : List D), Δ[l]? = some (Sl.own as) → σ[l]? ≠ some (some (V.ref p)) := fun l as e z => by
    obtain ⟨p3, vs3, a1, a2, _⟩ := s.rs.own l as e
    rw [a1] at z
    cases z
    rw [hp] at a2; cases a2
  have s2 := s1.set (i := j) r1
  have e1 : (σ.set i (some (V.ref p))).set j (some v) = (σ.set j (some v)).set i (some (V.ref p)) := List.set_comm _ _ hij
  refine ⟨_, _, rfl, ?_⟩
  rw [e1]
  refine k1 _ _ G1 H1 g1.ex ?_ (k d p1)
  -- the slot i holds p, which is none of the other lists
  have old : ∀ {l : Nat} {e : Sl}, ((Δ.set j (.dat d)).set i (Sl.own []))[l]? = some e → (l = i ∧ e = Sl.own [] ∧ i < Δ.length) ∨ (l ≠ i ∧ (Δ.set j (.dat d))[l]? = some e ∧ ((σ.set j (some v)).set i (some (V.ref p)))[l]? = (σ.set j (some v))[l]?) := fun {l e} he => by
    by_cases c : i = l
    · subst c
      have hl : i < Δ.length := by
        have := (List.getElem?_eq_some_iff.mp he).1
        simpa using this
      rw [List.getElem?_set_self (by simpa using hl)] at he
      cases he
      exact .inl ⟨rfl, rfl, hl⟩
    · rw [List.getElem?_set_ne c] at he
      exact .inr ⟨fun z => c z.symm, he, List.getElem?_set_ne c⟩
  have back : ∀ {l : Nat} {as : List D}, (Δ.set j (Sl.dat d))[l]? = some (Sl.own as) → Δ[l]? = some (Sl.own as) ∧ (σ.set j (some v))[l]? = σ[l]? := fun {l as} e => by
    by_cases c : j = l
    · subst c
      have hl : j < Δ.length := by
        have := (List.getElem?_eq_some_iff.mp e).1
        simpa using this
      rw [List.getElem?_set_self hl] at e
      cases e
    · rw [List.getElem?_set_ne c] at e
      exact ⟨e, List.getElem?_set_ne c⟩
  refine ⟨s2.gr, s2.hq, s2.rs.sub, by simpa using s.rs.len, s2.rs.gq, s2.rs.tb, fun l e he => ?_, fun l bs he => ?_, fun l m bs cs p2 a1 a2 a3 a4 => ?_, fun l he => ?_⟩
  · rcases old he with ⟨_, c, _⟩ | ⟨_, c, c2⟩
    · cases c
    · rw [c2]; exact s2.rs.dat l e c
  · rcases old he with ⟨c1, c, hl⟩ | ⟨_, c, c2⟩
    · cases c
      subst c1
      exact ⟨p, [], List.getElem?_set_self (by rw [List.length_set, s.rs.len]; exact hl), hp1, .nil, hG1, hH0, hqp⟩
    · rw [c2]; exact s2.rs.own l bs c
  · rcases old a1 with ⟨c1, _, hl⟩ | ⟨n1, c1, e1⟩
    · rcases old a2 with ⟨c2, _, _⟩ | ⟨n2, c2, e2⟩
      · rw [c1, c2]
      · subst c1
        rw [List.getElem?_set_self (by rw [List.length_set, s.rs.len]; exact hl)] at a3
        cases a3
        obtain ⟨b1, b2⟩ := back c2
        rw [e2, b2] at a4
        exact absurd a4 (other _ _ b1)
    · rcases old a2 with ⟨c2, _, hl⟩ | ⟨n2, c2, e2⟩
      · subst c2
        rw [List.getElem?_set_self (by rw [List.length_set, s.rs.len]; exact hl)] at a4
        cases a4
        obtain ⟨b1, b2⟩ := back c1
        rw [e1, b2] at a3
        exact absurd a3 (other _ _ b1)
      · rw [e1] at a3
        rw [e2] at a4
        exact s2.rs.dif l m bs cs p2 c1 c2 a3 a4
  · rcases old he with ⟨_, c, _⟩ | ⟨_, c, c2⟩
    · cases c
    · rw [c2]; exact s2.rs.dice l c
/-- x op= e -/
theorem xs_aug {i : Nat} {ip : TIp} {x : D} (hi : Δ[i]? = some (Sl.dat x)) (h : Ev K (WE W) te Δ R X) (hx : ∀ C, X C → post (.ex C Δ)) (hr : ∀ y, R y → ∃ z, OpD K ip x y (· = z) ∧ post (.nx (Δ.set i (.dat z)))) : Xs K W (tAug i te ip) Δ post := fun q G0 H0 G H σ T s k1 k2 k3 k4 k5 => by
  obtain ⟨v, h1, h2⟩ := s.rs.dat i x hi
  refine ⟨v, h1, ?_⟩
  refine h q G0 H0 G H σ _ s (fun w y G1 H1 g1 r1 p1 => ?_) fun C G1 H1 g x => k5 C σ Δ G1 H1 g.ex (s.go g) (hx C x)
  obtain ⟨z, ho, hp⟩ := hr y p1
  refine ho G1 H1 v w _ g1.sub (h2.ex g1.ex) r1 fun u d G2 H2 g2 rd e => ?_
  subst e
  exact k1 _ _ G2 H2 (g1.ex.trans g2.ex) (((s.go g1).go g2.any).set rd) hp
theorem xs1_aug {i : Nat} {ip : TIp} {x y z : D} (hi : Δ[i]? = some (Sl.dat x)) (h : Ev K (WE W) te Δ (· = y) fun _ => False) (hr : OpD K ip x y (· = z)) (k : post (.nx (Δ.set i (.dat z)))) : Xs K W (tAug i te ip) Δ post :=
  xs_aug hi h (fun _ z => z.elim) fun e w => by rw [w]; exact ⟨z, hr, k⟩
/-- raise C(..) -/
theorem xs_raise {C : Addr} (k : post (.ex C Δ)) : Xs K W (fun _ σ H => W (.ref C) none σ H) Δ post := fun q G0 H0 G H σ T s k1 k2 k3 k4 k5 => k5 C σ Δ G H (Exx.refl _) s k
/-- while -/
theorem xs_while (I : Nat → En → Prop) (m0 : Nat) (h0 : I m0 Δ) (hs : ∀ m Δ', I m Δ' → ∃ (Rt : Bool → Prop) (X : Addr → Prop), Et K (WE W) tt Δ' Rt X ∧ (∀ C, X C → post (.ex C Δ')) ∧
      (Rt true → Xs K W t Δ' fun o => match o with
        | .nx Δ2 => ∃ m', m' < m ∧ I m' Δ2
        | .ct Δ2 => ∃ m', m' < m ∧ I m' Δ2
        | .bk Δ2 => post (.nx Δ2)
        | o => post o) ∧ (Rt false → post (.nx Δ'))) : Xs K W (tWhile tt t) Δ post := fun q G0 H0 G H σ T s k1 k2 k3 k4 k5 => by
  refine ⟨fun m σ' H' => ∃ Δ' G', Exx G G' ∧ Sta K q G0 H0 G' H' σ' Δ' ∧ I m Δ', ⟨m0, Δ, G, Exx.refl _, s, h0⟩, ?_⟩
  rintro m σ1 H1 ⟨Δ1, G1, e1, s1, i1⟩
  obtain ⟨Rt, X, ht, hx, hb, hn⟩ := hs m Δ1 i1
  refine ht q G0 H0 G1 H1 σ1 _ s1 (fun b G2 H2 g2 p2 => ?_) fun C G2 H2 g x => k5 C σ1 Δ1 G2 H2 (e1.trans g.ex) (s1.go g) (hx C x)
  have s2 := s1.go g2
  have e2 := e1.trans g2.ex
  cases b with
  | false => exact iteF (k1 σ1 Δ1 G2 H2 e2 s2 (hn p2))
  | true =>
    refine iteT ⟨fun σ' H' => ∃ m', m' < m ∧ ∃ Δ' G', Exx G G' ∧ Sta K q G0 H0 G' H' σ' Δ' ∧ I m' Δ', fun σ' H' h => h, ?_⟩
    refine hb p2 q G0 H0 G2 H2 σ1 _ s2 (fun σ3 Δ3 G3 H3 e3 s3 p3 => ?_) (fun v d G3 H3 g3 r3 p3 => k2 v d G3 H3 g3 r3 p3) (fun σ3 Δ3 G3 H3 e3 s3 p3 => k1 σ3 Δ3 G3 H3 (e2.trans e3) s3 p3) (fun σ3 Δ3 G3 H3 e3 s3 p3 => ?_) fun C σ3 Δ3 G3 H3 e3 s3 p3 => k5 C σ3 Δ3 G3 H3 (e2.trans e3) s3 p3
    · obtain ⟨m', l, i3⟩ := p3
      exact ⟨m', l, Δ3, G3, e2.trans e3, s3, i3⟩
    · obtain ⟨m', l, i3⟩ := p3
      exact ⟨m', l, Δ3, G3, e2.trans e3, s3, i3⟩

/-! ### walks: what a loop or a comprehension goes through, as data -/
def Wk (K : PySem.W.Frag) (J : It) (G : Hp) (items : List D) : Prop := ∀ (G1 H1 : Hp), Exx G G1 → Exx G1 H1 →
  (∀ i, i < items.length → J.go i H1 ∧ ∀ x H2, J.yld i H1 x H2 → ∃ G2 d, Gr none G1 H1 G2 H2 ∧ items[i]? = some d ∧ Rp K G2 x d) ∧ J.stop items.length H1
def Ew (K : PySem.W.Frag) (E : L2.St → XK) (wi : TI) (Δ : En) (R : List D → Prop) (X : Addr → Prop) : Prop :=
  ∀ (q : Qd) (G0 H0 G H : Hp) (σ : L2.St) (Rj : It → Hp → Prop), Sta K q G0 H0 G H σ Δ →
    (∀ (J : It) (items : List D) (G' H' : Hp), Gr q G H G' H' → Wk K J G' items → R items → Rj J H') →
    (∀ (C : Addr) (G' H' : Hp), Gr q G H G' H' → X C → E σ (.ref C) none H') → wi σ H Rj
theorem xs_for {wi : TI} {g : TG} {Rw : List D → Prop} (hw : Ew K (WE W) wi Δ Rw X) (hx : ∀ C, X C → post (.ex C Δ)) (I : List D → Nat → En → Prop) (h0 : ∀ items, Rw items → I items 0 Δ)
    (hs : ∀ items i d Δ', Rw items → items[i]? = some d → I items i Δ' → ∃ js Δ2, Tg K g js Δ' d Δ2 ∧ Xs K W t Δ2 fun o => match o with
      | .nx Δ3 => I items (i + 1) Δ3
      | .ct Δ3 => I items (i + 1) Δ3
      | .bk Δ3 => post (.nx Δ3)
      | o => post o) (hd : ∀ items Δ', Rw items → I items items.length Δ' → post (.nx Δ')) : Xs K W (tFor wi g t) Δ post := fun q G0 H0 G H σ T s k1 k2 k3 k4 k5 => by
  refine hw q G0 H0 G H σ _ s (fun J items Gw Hw gw wk rw_ => ?_) fun C G1 H1 g x => k5 C σ Δ G1 H1 g.ex (s.go g) (hx C x)
  refine ⟨fun i m σ' H' => m = items.length - i ∧ i ≤ items.length ∧ ∃ Δ' G', Exx Gw G' ∧ Sta K q G0 H0 G' H' σ' Δ' ∧ I items i Δ', ⟨items.length, rfl, Nat.zero_le _, Δ, Gw, Exx.refl _, s.go gw, h0 items rw_⟩, ?_⟩
  rintro i m σ1 H1 ⟨rfl, hi, Δ1, G1, e1, s1, i1⟩
  obtain ⟨wg, ws⟩ := wk G1 H1 e1 s1.sub
  by_cases hlt : i < items.length
  · obtain ⟨go, yl⟩ := wg i hlt
    refine .inr ⟨go, fun σ' H' => ∃ Δ' G', Exx Gw G' ∧ Sta K q G0 H0 G' H' σ' Δ' ∧ I items (i + 1) Δ', fun σ' H' ⟨Δ', G', a, b, c⟩ => ⟨items.length - (i + 1), by omega, rfl, hlt, Δ', G', a, b, c⟩, fun x H2 y => ?_⟩
    obtain ⟨G2, d, g2, hd', rx⟩ := yl x H2 y
    have s2 := s1.go g2.any
    obtain ⟨js, Δ2, ht, hb⟩ := hs items i d Δ1 rw_ hd' i1
    refine ht q G0 H0 G2 H2 σ1 x _ s2 rx fun σ3 s3 _ => ?_
    have e2 := e1.trans g2.ex
    exact hb q G0 H0 G2 H2 σ3 _ s3 (fun σ4 Δ4 G4 H4 e4 s4 p4 => ⟨Δ4, G4, e2.trans e4, s4, p4⟩) k2 (fun σ4 Δ4 G4 H4 e4 s4 p4 => k1 σ4 Δ4 G4 H4 (gw.ex.trans (e2.trans e4)) s4 p4) (fun σ4 Δ4 G4 H4 e4 s4 p4 => ⟨Δ4, G4, e2.trans e4, s4, p4⟩)
      fun C σ4 Δ4 G4 H4 e4 s4 p4 => k5 C σ4 Δ4 G4 H4 (gw.ex.trans (e2.trans e4)) s4 p4
  · have e : i = items.length := by omega
    subst e
    exact .inl ⟨ws, k1 σ1 Δ1 G1 H1 (gw.ex.trans e1) s1 (hd items Δ1 rw_ i1)⟩
/-- items that are known -/
theorem xs1_for {wi : TI} {g : TG} {items : List D} (hw : Ew K (WE W) wi Δ (· = items) fun _ => False) (I : Nat → En → Prop) (h0 : I 0 Δ)
    (hs : ∀ i d Δ', items[i]? = some d → I i Δ' → ∃ js Δ2, Tg K g js Δ' d Δ2 ∧ Xs K W t Δ2 fun o => match o with
      | .nx Δ3 => I (i + 1) Δ3
      | .ct Δ3 => I (i + 1) Δ3
      | .bk Δ3 => post (.nx Δ3)
      | o => post o) (hd : ∀ Δ', I items.length Δ' → post (.nx Δ')) : Xs K W (tFor wi g t) Δ post :=
  xs_for hw (fun _ z => z.elim) (fun _ i Δ' => I i Δ') (fun _ _ => h0) (fun it i d Δ' e hi' i1 => hs i d Δ' (by rw [← e]; exact hi') i1) fun it Δ' e i1 => hd Δ' (by rw [← e]; exact i1)
end
end Ts


namespace Ts
variable [Tt]
open PySem PySem.Spec PyProof.Rows L2

section
variable {K : PySem.W.Frag} {E : L2.St → XK} {W : WX} {Δ : En} {te ta tb : TE} {tt : TT} {R : D → Prop} {X : Addr → Prop} {wi wj : TI} {Rw : List D → Prop}
theorem ew_inl (h : Ew K E wi Δ Rw X) : Ew K E (fun σ H Rj => wi σ H Rj ∨ wj σ H Rj) Δ Rw X := fun q G0 H0 G H σ Rj s k kx => .inl (h q G0 H0 G H σ Rj s k kx)
theorem ew_inr (h : Ew K E wj Δ Rw X) : Ew K E (fun σ H Rj => wi σ H Rj ∨ wj σ H Rj) Δ Rw X := fun q G0 H0 G H σ Rj s k kx => .inr (h q G0 H0 G H σ Rj s k kx)
theorem ew_list (h : Ev K E te Δ (fun d => ∃ ds, d = .lst ds ∧ Rw ds) X) : Ew K E (iList K te) Δ Rw X := fun q G0 H0 G H σ Rj s k kx =>
  h q G0 H0 G H σ _ s (fun v d G1 H1 g1 r1 p1 => by
    obtain ⟨ds, rfl, hp⟩ := p1
    obtain ⟨a, xs, rfl, ha, hr⟩ := r1.lst_inv
    refine ⟨a, rfl, ⟨xs, .inl (.inl (g1.sub.l ha))⟩, k (Itl K a) ds G1 H1 g1 (fun G2 H2 e2 e3 => ?_) hp⟩
    have hq : SqL K H2 a xs := .inl (.inl (e3.l (e2.l ha)))
    have hl := hr.length
    refine ⟨fun i hi => ⟨⟨xs, xs[i]'(by omega), hq, by simp [show i < xs.length by omega]⟩, fun x H3 y => ?_⟩, ⟨xs, hq, by omega⟩⟩
    obtain ⟨e, y⟩ := y
    subst e
    obtain ⟨d, hd, rd⟩ := hr.getV (y xs hq)
    exact ⟨G2, d, Gr.refl e3, hd, rd.ex e2⟩) kx
theorem ew_tup (h : Ev K E te Δ (fun d => ∃ ds, d = .tup ds ∧ Rw ds) X) : Ew K E (iTup K te) Δ Rw X := fun q G0 H0 G H σ Rj s k kx =>
  h q G0 H0 G H σ _ s (fun v d G1 H1 g1 r1 p1 => by
    obtain ⟨ds, rfl, hp⟩ := p1
    obtain ⟨a, xs, rfl, ha, hr⟩ := r1.tup_inv
    refine ⟨a, rfl, ⟨xs, st_ex g1.sub ha⟩, k (Itt K a) ds G1 H1 g1 (fun G2 H2 e2 e3 => ?_) hp⟩
    have hq : SqT K H2 a xs := st_ex e3 (st_ex e2 ha)
    have hl := hr.length
    refine ⟨fun i hi => ⟨⟨xs, xs[i]'(by omega), hq, by simp [show i < xs.length by omega]⟩, fun x H3 y => ?_⟩, ⟨xs, hq, by omega⟩⟩
    obtain ⟨e, y⟩ := y
    subst e
    obtain ⟨d, hd, rd⟩ := hr.getV (y xs hq)
    exact ⟨G2, d, Gr.refl e3, hd, rd.ex e2⟩) kx
/-- a text's signs -/
def signs (z : Str) : List D := z.cps.toList.map fun c => .str ⟨#[c]⟩
theorem ew_str (h : Ev K E te Δ (fun d => ∃ z, d = .str z ∧ Rw (signs z)) X) : Ew K E (iStr te) Δ Rw X := fun q G0 H0 G H σ Rj s k kx =>
  h q G0 H0 G H σ _ s (fun v d G1 H1 g1 r1 p1 => by
    obtain ⟨z, rfl, hp⟩ := p1
    cases r1
    refine ⟨z, rfl, k (Its z) (signs z) G1 H1 g1 (fun G2 H2 e2 e3 => ?_) hp⟩
    have hl : (signs z).length = z.cps.size := by simp [signs]
    refine ⟨fun i hi => ⟨by rw [hl] at hi; exact hi, fun x H3 y => ?_⟩, by rw [hl]; exact Nat.le_refl _⟩
    obtain ⟨e, c, hc, ex⟩ := y
    subst e
    subst ex
    exact ⟨G2, .str ⟨#[c]⟩, Gr.refl e3, by simp [signs, hc], .str _⟩) kx
/-- lo, lo + c, .. -/
def rngD (lo c : Int) (n : Nat) : List D := (List.range n).map fun i => .int (lo + (i : Nat) * c)
theorem rngD_get {lo c : Int} {n i : Nat} (h : i < n) : (rngD lo c n)[i]? = some (.int (lo + (i : Nat) * c)) := by simp [rngD, h]
theorem rngD_len {lo c : Int} {n : Nat} : (rngD lo c n).length = n := by simp [rngD]
theorem rngD_of {lo c : Int} {n i : Nat} {d : D} (h : (rngD lo c n)[i]? = some d) : i < n ∧ d = .int (lo + (i : Nat) * c) := by
  have h1 : i < n := by
    have := (List.getElem?_eq_some_iff.mp h).1
    rwa [rngD_len] at this
  rw [rngD_get h1] at h
  exact ⟨h1, (Option.some.inj h).symm⟩
theorem wk_range {lo : Int} {n : Nat} {G : Hp} : Wk K (Itr lo n) G (rngD lo 1 n) := fun G2 H2 e2 e3 => by
  refine ⟨fun i hi => ⟨by rw [rngD_len] at hi; exact hi, fun x H3 y => ?_⟩, by rw [rngD_len]; exact Nat.le_refl _⟩
  obtain ⟨e, ex⟩ := y
  subst e
  subst ex
  rw [rngD_len] at hi
  exact ⟨G2, _, Gr.refl e3, rngD_get hi, by rw [Int.mul_one]; exact .int _⟩
theorem wk_rangeC {lo c : Int} {n : Nat} {G : Hp} : Wk K (Itc lo c n) G (rngD lo c n) := fun G2 H2 e2 e3 => by
  refine ⟨fun i hi => ⟨by rw [rngD_len] at hi; exact hi, fun x H3 y => ?_⟩, by rw [rngD_len]; exact Nat.le_refl _⟩
  obtain ⟨e, ex⟩ := y
  subst e
  subst ex
  rw [rngD_len] at hi
  exact ⟨G2, _, Gr.refl e3, rngD_get hi, .int _⟩
theorem ew_rng1 (h : Ev K E te Δ (fun d => ∃ j : Int, d = .int j ∧ -(2 ^ 62) ≤ j ∧ j < 2 ^ 62 ∧ Rw (rngD 0 1 j.toNat)) X) : Ew K E (iRng1 (tCons te tNil)) Δ Rw X := fun q G0 H0 G H σ Rj s k kx =>
  h q G0 H0 G H σ _ s (fun v d G1 H1 g1 r1 p1 => by
    obtain ⟨j, rfl, h1, h2, hp⟩ := p1
    cases r1
    exact ⟨j, rfl, h1, h2, k _ _ G1 H1 g1 wk_range hp⟩) kx
theorem ew_rng2 (h : Ev K E ta Δ R X) (h' : ∀ a, R a → Ev K E tb Δ (fun d => ∃ i j : Int, a = .int i ∧ d = .int j ∧ (-(2 ^ 62) ≤ i ∧ i < 2 ^ 62 ∧ -(2 ^ 62) ≤ j ∧ j < 2 ^ 62) ∧ Rw (rngD i 1 (j - i).toNat)) X) : Ew K E (iRng2 (tCons ta (tCons tb tNil))) Δ Rw X := fun q G0 H0 G H σ Rj s k kx =>
  h q G0 H0 G H σ _ s (fun v a G1 H1 g1 r1 p1 => h' a p1 q G0 H0 G1 H1 σ _ (s.go g1) (fun u d G2 H2 g2 r2 p2 => by
    obtain ⟨i, j, rfl, rfl, hb, hp⟩ := p2
    cases r1
    cases r2
    exact ⟨i, j, rfl, hb, k _ _ G2 H2 (s.tr g1 g2) wk_range hp⟩) fun C G' H' g x => kx C G' H' (s.tr g1 g) x) kx
theorem ew_rng3 {a b c : Int} {n : Nat} (h1 : Ev K E ta Δ (· = .int a) X) (h2 : Ev K E tb Δ (· = .int b) X) (h3 : Ev K E te Δ (· = .int c) X) (hr : RgC a b c n) : Ew K E (iRng3 (tCons ta (tCons tb (tCons te tNil)))) Δ (· = rngD a c n) X := fun q G0 H0 G H σ Rj s k kx =>
  h1 q G0 H0 G H σ _ s (fun v d1 G1 H1 g1 r1 p1 => h2 q G0 H0 G1 H1 σ _ (s.go g1) (fun u d2 G2 H2 g2 r2 p2 => h3 q G0 H0 G2 H2 σ _ (s.go (s.tr g1 g2)) (fun x d3 G3 H3 g3 r3 p3 => by
    subst p1; subst p2; subst p3
    cases r1; cases r2; cases r3
    exact ⟨a, b, c, n, rfl, hr, k _ _ G3 H3 (s.tr (s.tr g1 g2) g3) wk_rangeC rfl⟩) fun C G' H' g x => kx C G' H' (s.tr (s.tr g1 g2) g) x) fun C G' H' g x => kx C G' H' (s.tr g1 g) x) kx
/-- (0, a), (1, b), .. -/
def enumD (ds : List D) : List D := ds.mapIdx fun i d => .tup [.int (i : Nat), d]
theorem enumD_get {ds : List D} {i : Nat} {d : D} (h : ds[i]? = some d) : (enumD ds)[i]? = some (.tup [.int (i : Nat), d]) := by simp [enumD, h]
theorem enumD_len {ds : List D} : (enumD ds).length = ds.length := by simp [enumD]
theorem enumD_of {ds : List D} {i : Nat} {e : D} (h : (enumD ds)[i]? = some e) : ∃ d, ds[i]? = some d ∧ e = .tup [.int (i : Nat), d] := by
  have h1 : i < ds.length := by
    have := (List.getElem?_eq_some_iff.mp h).1
    rwa [enumD_len] at this
  refine ⟨ds[i], List.getElem?_eq_getElem h1, ?_⟩
  rw [enumD_get (List.getElem?_eq_getElem h1)] at h
  exact (Option.some.inj h).symm
theorem ew_enum (h : Ev K E te Δ (fun d => ∃ ds, d = .lst ds ∧ Rw (enumD ds)) X) : Ew K E (iEnum K (tCons te tNil)) Δ Rw X := fun q G0 H0 G H σ Rj s k kx =>
  h q G0 H0 G H σ _ s (fun v d G1 H1 g1 r1 p1 => by
    obtain ⟨ds, rfl, hp⟩ := p1
    obtain ⟨a, xs, rfl, ha, hr⟩ := r1.lst_inv
    refine ⟨a, xs, rfl, .inl (.inl (g1.sub.l ha)), k (Ite K a) (enumD ds) G1 H1 g1 (fun G2 H2 e2 e3 => ?_) hp⟩
    have hq : SqL K H2 a xs := .inl (.inl (e3.l (e2.l ha)))
    have hl := hr.length
    rw [enumD_len]
    refine ⟨fun i hi => ⟨⟨xs, xs[i]'(by omega), hq, by simp [show i < xs.length by omega]⟩, fun x H3 y => ?_⟩, ⟨xs, hq, by omega⟩⟩
    obtain ⟨T, z, rfl, hT, rfl, y⟩ := y
    obtain ⟨d, hd, rd⟩ := hr.getV (y xs hq)
    have g := Gr.new (o := .tup [.int (i : Nat), z]) e3 hT
    exact ⟨_, _, g, enumD_get hd, .tup (.inl (.inl upd_same)) (.cons (.int _) (.cons (rd.ex (e2.trans g.ex)) .nil))⟩) kx
/-- pairs -/
def zipD (as bs : List D) : List D := List.zipWith (fun a b => .tup [a, b]) as bs
theorem zipD_get {as bs : List D} {i : Nat} {a b : D} (h1 : as[i]? = some a) (h2 : bs[i]? = some b) : (zipD as bs)[i]? = some (.tup [a, b]) := by simp [zipD, List.getElem?_zipWith, h1, h2]
theorem zipD_len {as bs : List D} : (zipD as bs).length = min as.length bs.length := by simp [zipD]
theorem zipD_of {as bs : List D} {i : Nat} {e : D} (h : (zipD as bs)[i]? = some e) : ∃ a b, as[i]? = some a ∧ bs[i]? = some b ∧ e = .tup [a, b] := by
  have h1 : i < min as.length bs.length := by
    have := (List.getElem?_eq_some_iff.mp h).1
    rwa [zipD_len] at this
  have ha : as[i]? = some as[i] := List.getElem?_eq_getElem (by omega)
  have hb : bs[i]? = some bs[i] := List.getElem?_eq_getElem (by omega)
  refine ⟨_, _, ha, hb, ?_⟩
  rw [zipD_get ha hb] at h
  exact (Option.some.inj h).symm
theorem ew_zip (h : Ev K E ta Δ R X) (h' : ∀ d, R d → Ev K E tb Δ (fun e => ∃ as bs, d = .lst as ∧ e = .lst bs ∧ Rw (zipD as bs)) X) : Ew K E (iZip K (tCons ta (tCons tb tNil))) Δ Rw X := fun q G0 H0 G H σ Rj s k kx =>
  h q G0 H0 G H σ _ s (fun v d G1 H1 g1 r1 p1 => h' d p1 q G0 H0 G1 H1 σ _ (s.go g1) (fun u e G2 H2 g2 r2 p2 => by
    obtain ⟨as, bs, rfl, rfl, hp⟩ := p2
    obtain ⟨a, xs, rfl, ha, hr⟩ := (r1.ex g2.ex).lst_inv
    obtain ⟨b, ys, rfl, hb, hr2⟩ := r2.lst_inv
    refine ⟨a, b, xs, ys, rfl, .inl (.inl (g2.sub.l ha)), .inl (.inl (g2.sub.l hb)), k (Itz K a b) (zipD as bs) G2 H2 (s.tr g1 g2) (fun G3 H3 e2 e3 => ?_) hp⟩
    have hq : SqL K H3 a xs := .inl (.inl (e3.l (e2.l ha)))
    have hq2 : SqL K H3 b ys := .inl (.inl (e3.l (e2.l hb)))
    have hl := hr.length
    have hl2 := hr2.length
    rw [zipD_len]
    refine ⟨fun i hi => ⟨⟨xs, ys, xs[i]'(by omega), ys[i]'(by omega), hq, hq2, by simp [show i < xs.length by omega], by simp [show i < ys.length by omega]⟩, fun x H4 y => ?_⟩, ⟨xs, ys, hq, hq2, by omega⟩⟩
    obtain ⟨T, z, z2, rfl, hT, rfl, y1, y2⟩ := y
    obtain ⟨d, hd, rd⟩ := hr.getV (y1 xs hq)
    obtain ⟨d2, hd2, rd2⟩ := hr2.getV (y2 ys hq2)
    have g := Gr.new (o := .tup [z, z2]) e3 hT
    exact ⟨_, _, g, zipD_get hd hd2, .tup (.inl (.inl upd_same)) (.cons (rd.ex (e2.trans g.ex)) (.cons (rd2.ex (e2.trans g.ex)) .nil))⟩) fun C G' H' g x => kx C G' H' (s.tr g1 g) x) kx

/-! ### comprehensions -/
def wipeE (Δ : En) : List Nat → En
  | [] => Δ
  | v :: vs => (wipeE Δ vs).set v .no
theorem sta_wipe {q : Qd} {G0 H0 G H : Hp} {σ : L2.St} (s : Sta K q G0 H0 G H σ Δ) : ∀ vs : List Nat, Sta K q G0 H0 G H (wipe σ vs) (wipeE Δ vs)
  | [] => s
  | v :: vs => (sta_wipe s vs).setAny
theorem wipe_wipe {σ : L2.St} : ∀ {vs us : List Nat}, (∀ v ∈ us, v ∈ vs) → wipe (wipe σ us) vs = wipe σ vs
  | _, [], _ => rfl
  | vs, u :: us, h => by
    show wipe ((wipe σ us).set u none) vs = wipe σ vs
    rw [wipe_set_in (h u List.mem_cons_self)]
    exact wipe_wipe fun v hv => h v (List.mem_cons_of_mem _ hv)
abbrev E00 : L2.St → XK := fun _ _ _ _ => False
theorem ev_lc {g : TG} {vs : List Nat} {E : L2.St → XK} (hw : Ew K E wi Δ Rw X) (I : List D → Nat → List D → Prop) (h0 : ∀ items, Rw items → I items 0 [])
    (hs : ∀ items i d acc, Rw items → items[i]? = some d → I items i acc → ∃ js Δ2, (∀ j ∈ js, j ∈ vs) ∧ Tg K g js (wipeE Δ vs) d Δ2 ∧
      Et K E00 tt Δ2 (fun b => (b = true → Ev K E00 te Δ2 (fun e => acc.length < sizeLine ∧ I items (i + 1) (acc ++ [e])) fun _ => False) ∧ (b = false → I items (i + 1) acc)) fun _ => False)
    (hd : ∀ items acc, Rw items → I items items.length acc → R (.lst acc)) : Ev K E (tLc wi g tt te vs) Δ R X := fun q G0 H0 G H σ Q s k kx => by
  refine hw q G0 H0 G H σ _ s (fun J items Gw Hw gw wk rw_ => ?_) kx
  intro Dl hDl
  have hHD : Nt H Dl := gw.live s.dq (.of hDl)
  have hqD : q ≠ some Dl := fun c => by
    obtain ⟨x, y, z, e⟩ := (s.go gw).dq Dl c
    rw [hDl] at e; cases e
  have hGw : Nt Gw Dl := fun o c => Classical.byContradiction fun n => by
    rw [gw.sub Dl o c (fun ps z => n ⟨ps, z⟩)] at hDl; cases hDl
  have nop : ∀ {F : Hp} {a : Addr} {o : HO}, Nt F Dl → F a = some o → (∀ ps, o ≠ HO.tbl ps) → a ≠ Dl := fun n e nt z => by
    rw [z] at e
    obtain ⟨ps, h⟩ := n _ e
    exact nt ps h
  -- writing the list that grows
  have put : ∀ {G1 H1 : Hp} {ws : List V}, Gr q G H G1 H1 → Nt G1 Dl → (H1 Dl = none ∨ ∃ us, H1 Dl = some (.lst us)) → Gr q G H G1 (upd H1 Dl (.lst ws)) := fun {G1 H1 ws} g1 n1 h1 => by
    have tb : Tbd H1 (upd H1 Dl (.lst ws)) := by
      rcases h1 with h1 | ⟨us, h1⟩
      · exact .new h1
      · exact .chg h1
    refine ⟨g1.ex, g1.nw, fun a o e nt => ?_, fun a o c e nt => ?_, fun t => tb (g1.tk t), fun a c d => ?_⟩
    · rw [upd_ne (nop n1 e nt)]; exact g1.sub a o e nt
    · rw [upd_ne (nop hHD e nt)]; exact g1.keep a o c e nt
    · have : a ≠ Dl := fun z => by rw [z] at c; exact hqD c
      obtain ⟨x, y, z, e⟩ := g1.dq a c d
      exact ⟨x, y, z, by rw [upd_ne this]; exact e⟩
  refine ⟨fun i m H' => m = items.length - i ∧ i ≤ items.length ∧ ∃ G' ws acc, Gr q G H G' H' ∧ Exx Gw G' ∧ Nt G' Dl ∧ H' Dl = some (.lst ws) ∧ RpL K G' ws acc ∧ I items i acc,
    ⟨items.length, rfl, Nat.zero_le _, Gw, [], [], put gw hGw (.inl hDl), Exx.refl _, hGw, upd_same, .nil, h0 items rw_⟩, ?_⟩
  rintro i m H1 ⟨rfl, hi, G1, ws, acc, g1, e1, n1, hD1, r1, i1⟩
  obtain ⟨wg, wst⟩ := wk G1 H1 e1 g1.sub
  by_cases hlt : i < items.length
  · obtain ⟨go, yl⟩ := wg i hlt
    refine .inr ⟨go, fun H' => ∃ G' ws acc, Gr q G H G' H' ∧ Exx Gw G' ∧ Nt G' Dl ∧ H' Dl = some (.lst ws) ∧ RpL K G' ws acc ∧ I items (i + 1) acc, fun H' h => ⟨items.length - (i + 1), by omega, rfl, hlt, h⟩, fun x H2 y => ?_⟩
    obtain ⟨G2, d, g2, hd', rx⟩ := yl x H2 y
    have s1 := s.go g1
    have s2 := sta_wipe (s1.go g2.any) vs
    obtain ⟨js, Δ2, hjs, ht, hb⟩ := hs items i d acc rw_ hd' i1
    refine ht q G0 H0 G2 H2 (wipe σ vs) x _ s2 rx fun σ3 s3 w3 => ⟨(w3 vs hjs).trans (wipe_wipe fun v hv => hv), ?_⟩
    have keepD : ∀ {G5 H5 : Hp}, Gr q G1 H1 G5 H5 → Nt G5 Dl ∧ H5 Dl = some (.lst ws) := fun {G5 H5} g5 => ⟨g5.un n1 hD1, g5.kl hqD hD1⟩
    refine hb q G0 H0 G2 H2 σ3 _ s3 (fun b G3 H3 g3 p3 => ?_) fun _ _ _ _ z => z.elim
    have g13 : Gr q G1 H1 G3 H3 := s1.tr g2.any g3
    cases b with
    | false =>
      obtain ⟨a1, a2⟩ := keepD g13
      exact iteF ⟨G3, ws, acc, s.tr g1 g13, e1.trans g13.ex, a1, a2, r1.ex g13.ex, p3.2 rfl⟩
    | true =>
      refine iteT ((p3.1 rfl) q G0 H0 G3 H3 σ3 _ (s3.go g3) (fun u e G4 H4 g4 r4 p4 => ?_) fun _ _ _ _ z => z.elim)
      have g14 : Gr q G1 H1 G4 H4 := s1.tr g13 g4
      obtain ⟨a1, a2⟩ := keepD g14
      refine ⟨ws, a2, by rw [r1.length]; exact p4.1, G4, ws ++ [u], acc ++ [e], put (s.tr g1 g14) a1 (.inr ⟨_, a2⟩), e1.trans g14.ex, a1, upd_same, (r1.ex g14.ex).append (.cons r4 .nil), p4.2⟩
  · have e : i = items.length := by omega
    subst e
    refine .inl ⟨wst, ?_⟩
    have ex' : Exx G1 (upd G1 Dl (.lst ws)) := fun a o e nt => by rw [upd_ne (nop n1 e nt)]; exact e
    refine k (.ref Dl) (.lst acc) (upd G1 Dl (.lst ws)) H1 ⟨g1.ex.trans ex', fun a o e => ?_, fun a o e nt => ?_, g1.keep, g1.tk, g1.dq⟩ (.lst upd_same (r1.ex ex')) (hd items acc rw_ i1)
    · by_cases c : a = Dl
      · rw [c]; exact .inr hHD
      · rw [upd_ne c] at e; exact g1.nw a o e
    · by_cases c : a = Dl
      · rw [c, upd_same] at e; rw [c, ← e]; exact hD1
      · rw [upd_ne c] at e; exact g1.sub a o e nt
theorem et_yes {E : L2.St → XK} : Et K E tYes Δ (· = true) X := fun q G0 H0 G H σ Q s k _ => k true G H s.rf rfl
/-- [f(x) for x in items], no test, each with its value -/
theorem ev1_lc {g : TG} {vs : List Nat} {E : L2.St → XK} {items : List D} (f : Nat → D → D) (hw : Ew K E wi Δ (· = items) X) (hl : items.length ≤ 1000000)
    (hs : ∀ i d, items[i]? = some d → ∃ js Δ2, (∀ j ∈ js, j ∈ vs) ∧ Tg K g js (wipeE Δ vs) d Δ2 ∧ Ev K E00 te Δ2 (· = f i d) fun _ => False) : Ev K E (tLc wi g tYes te vs) Δ (· = .lst (items.mapIdx f)) X := by
  refine ev_lc hw (fun its i acc => acc = (its.take i).mapIdx f) (fun its _ => rfl) (fun its i d acc e hi ea => ?_) fun its acc e ea => ?_
  · subst e
    obtain ⟨js, Δ2, h1, h2, h3⟩ := hs i d hi
    have hlt := (List.getElem?_eq_some_iff.mp hi).1
    refine ⟨js, Δ2, h1, h2, et_yes.imp fun b eb => ⟨fun _ => h3.imp fun z ez => ⟨?_, ?_⟩, fun c => by rw [eb] at c; cases c⟩⟩
    · rw [ea, List.length_mapIdx, List.length_take]
      exact szlt (by omega)
    · have et : its.take (i + 1) = its.take i ++ [d] := by
        rw [List.take_add_one, hi]; rfl
      rw [et, List.mapIdx_append, ea, ez]
      have lt : (its.take i).length = i := by rw [List.length_take]; omega
      simp [lt]
  · subst e
    rw [ea, List.take_length]

/-! ### a def keeps its promise -/
def fnP (post : List D → Res → Prop) (ds : List D) : Out → Prop
  | .nx _ => post ds (.ret .non)
  | .rt d => post ds (.ret d)
  | .ex C _ => post ds (.exc C)
  | _ => False
/-- the slots at the entry -/
def argsE (N : List Str) (ds : List D) : En := ds.map Sl.dat ++ List.replicate (N.length - ds.length) Sl.no
theorem start_get {N : List Str} {vs : List V} {i : Nat} {v : V} (h : vs[i]? = some v) : (L2.start N vs)[i]? = some (some v) := by
  unfold L2.start
  have hl : i < vs.length := (List.getElem?_eq_some_iff.mp h).1
  rw [List.getElem?_append_left (by simpa using hl), List.getElem?_map, h]
  rfl
theorem argsE_get {N : List Str} {ds : List D} {i : Nat} {e : Sl} (h : (argsE N ds)[i]? = some e) : (∃ d, ds[i]? = some d ∧ e = .dat d) ∨ e = .no := by
  unfold argsE at h
  by_cases hi : i < ds.length
  · rw [List.getElem?_append_left (by simpa using hi), List.getElem?_map, List.getElem?_eq_getElem hi] at h
    exact .inl ⟨_, List.getElem?_eq_getElem hi, (Option.some.inj h).symm⟩
  · rw [List.getElem?_append_right (by simpa using hi), List.getElem?_replicate] at h
    split at h
    · exact .inr (Option.some.inj h).symm
    · cases h
theorem sta_args {G H : Hp} {N : List Str} {vs : List V} {ds : List D} (he : Exx G H) (tb : TbOk H) (r : RpL K G vs ds) (hl : ds.length ≤ N.length) : Sta K none G H G H (L2.start N vs) (argsE N ds) := by
  refine Sta.start ⟨he, ?_, fun a e => (nomatch e), tb, fun i d h => ?_, fun i bs h => ?_, fun i j bs cs p h => ?_, fun i h => ?_⟩
  · unfold L2.start argsE
    simp [r.length]
  · rcases argsE_get h with ⟨e, h1, h2⟩ | h1
    · cases h2
      obtain ⟨v, hv, rv⟩ := r.get h1
      exact ⟨v, start_get hv, rv⟩
    · cases h1
  · rcases argsE_get h with ⟨e, _, h2⟩ | h1
    · cases h2
    · cases h1
  · rcases argsE_get h with ⟨e, _, h2⟩ | h1
    · cases h2
    · cases h1
  · rcases argsE_get h with ⟨e, _, h2⟩ | h1
    · cases h2
    · cases h1
section
variable {P : Program} {w : World} {mg : Str → Option Value} {base : Heap} {x qual : Str} {params : Arguments} {body : List Stmt} {scope : Scope} {dvs : List V} {kws : List (Str × V)} {f : Addr} {fd : FuncData} {N ps : List Str} {k : Nat} {pre : List D → Prop} {post : List D → Res → Prop}
abbrev wDef (E : XK) : WX := fun cls d _ H => E cls d H
theorem fn_D {t : WX → TS} (F : FunD K x qual params body scope dvs kws f fd) (S : FnScope N ps scope) (hp : ∀ ds, pre ds → ds.length = ps.length)
    (der : ∀ (cdv : Value) (A : Around) (outer : List Env) (s : Shared) (H : Hp) (E : XK), Room k (A.deeper (envOfC qual scope s.heap.objs.size f cdv)) → PSs (cxOf (L2.CX P w) P w K mg base N qual scope f cdv A outer s H E) body (t (wDef E)))
    (h : ∀ (W : WX) ds, pre ds → Xs K W (t W) (argsE N ds) (fnP post ds)) : FnOk P w K mg base (L2.CX P w) (k + 1) f fd ps (spD K pre post) := by
  have hNl : ps.length ≤ N.length := by have := congrArg List.length S.pre; rw [List.length_take] at this; omega
  refine F.ok S (fun vs H Q E hsp => ?_) fun cdv A outer s H vs Q E hr hsp => ⟨t (wDef E), der cdv A outer s H E hr, ?_⟩
  · obtain ⟨G, ds, _, _, r, p, _⟩ := hsp
    rw [r.length]; exact hp ds p
  · obtain ⟨G, ds, e, tb, r, p, k1, k2⟩ := hsp
    have hl : ds.length ≤ N.length := by rw [hp ds p]; exact hNl
    exact h (wDef E) ds p none G H G H (L2.start N vs) _ (sta_args e tb r hl) (fun σ' Δ' G' H' e' s' q => k1 .non .non G' H' s'.gr .non q) (fun v d G' H' g rv q => k1 v d G' H' g rv q) (fun _ _ _ _ _ _ z => False.elim z) (fun _ _ _ _ _ _ z => False.elim z) fun C σ' Δ' G' H' e' s' q => k2 C G' H' s'.gr q
/-- the slots at the entry of a def that gets the dice first -/
def argsQ (N : List Str) (ds : List D) : En := Sl.dice :: (ds.map Sl.dat ++ List.replicate (N.length - ds.length - 1) Sl.no)
theorem sta_argsQ {G H : Hp} {N : List Str} {a : Addr} {vs : List V} {ds : List D} (he : Exx G H) (n : Nt G a) (dq : DiceAt H a) (tb : TbOk H) (r : RpL K G vs ds) (hl : ds.length + 1 ≤ N.length) : Sta K (some a) G H G H (L2.start N (.ref a :: vs)) (argsQ N ds) := by
  have g0 : ∀ {i : Nat} {e : Sl}, (argsQ N ds)[i]? = some e → (i = 0 ∧ e = .dice) ∨ (∃ j d, i = j + 1 ∧ ds[j]? = some d ∧ e = .dat d) ∨ e = .no := fun {i e} h => by
    cases i with
    | zero => exact .inl ⟨rfl, (Option.some.inj h).symm⟩
    | succ j =>
      have h' : (ds.map Sl.dat ++ List.replicate (N.length - ds.length - 1) Sl.no)[j]? = some e := by simpa [argsQ] using h
      by_cases hi : j < ds.length
      · rw [List.getElem?_append_left (by simpa using hi), List.getElem?_map, List.getElem?_eq_getElem hi] at h'
        exact .inr (.inl ⟨j, _, rfl, List.getElem?_eq_getElem hi, (Option.some.inj h').symm⟩)
      · rw [List.getElem?_append_right (by simpa using hi), List.getElem?_replicate] at h'
        split at h'
        · exact .inr (.inr (Option.some.inj h').symm)
        · cases h'
  refine Sta.start ⟨he, ?_, fun b e => ?_, tb, fun i d h => ?_, fun i bs h => ?_, fun i j bs cs p h => ?_, fun i h => ?_⟩
  · unfold L2.start argsQ
    have := r.length
    simp only [List.length_append, List.length_map, List.length_replicate, List.length_cons]
    omega
  · cases e
    exact ⟨n, dq⟩
  · rcases g0 h with ⟨_, h2⟩ | ⟨j, e, rfl, h1, h2⟩ | h1
    · cases h2
    · cases h2
      obtain ⟨v, hv, rv⟩ := r.get h1
      exact ⟨v, start_get (by simpa using hv), rv⟩
    · cases h1
  · rcases g0 h with ⟨_, h2⟩ | ⟨j, e, rfl, h1, h2⟩ | h1
    · cases h2
    · cases h2
    · cases h1
  · rcases g0 h with ⟨_, h2⟩ | ⟨j, e, rfl, h1, h2⟩ | h1
    · cases h2
    · cases h2
    · cases h1
  · rcases g0 h with ⟨h1, h2⟩ | ⟨j, e, _, _, h2⟩ | h1
    · subst h1
      cases h2
      exact ⟨a, rfl, start_get rfl⟩
    · cases h2
    · cases h1
theorem fn_Q {t : WX → TS} (F : FunD K x qual params body scope dvs kws f fd) (S : FnScope N ps scope) (hp : ∀ ds, pre ds → ds.length + 1 = ps.length)
    (der : ∀ (cdv : Value) (A : Around) (outer : List Env) (s : Shared) (H : Hp) (E : XK), Room k (A.deeper (envOfC qual scope s.heap.objs.size f cdv)) → PSs (cxOf (L2.CX P w) P w K mg base N qual scope f cdv A outer s H E) body (t (wDef E)))
    (h : ∀ (W : WX) ds, pre ds → Xs K W (t W) (argsQ N ds) (fnP post ds)) : FnOk P w K mg base (L2.CX P w) (k + 1) f fd ps (spQ K pre post) := by
  have hNl : ps.length ≤ N.length := by have := congrArg List.length S.pre; rw [List.length_take] at this; omega
  refine F.ok S (fun vs H Q E hsp => ?_) fun cdv A outer s H vs Q E hr hsp => ⟨t (wDef E), der cdv A outer s H E hr, ?_⟩
  · obtain ⟨G, a, ws, ds, rfl, _, _, _, _, r, p, _⟩ := hsp
    rw [List.length_cons, r.length]; exact hp ds p
  · obtain ⟨G, a, ws, ds, rfl, e, n, dq, tb, r, p, k1, k2⟩ := hsp
    have hl : ds.length + 1 ≤ N.length := by rw [hp ds p]; exact hNl
    exact h (wDef E) ds p (some a) G H G H (L2.start N (.ref a :: ws)) _ (sta_argsQ e n dq tb r hl) (fun σ' Δ' G' H' e' s' q => k1 .non .non G' H' s'.gr .non q) (fun v d G' H' g rv q => k1 v d G' H' g rv q) (fun _ _ _ _ _ _ z => False.elim z) (fun _ _ _ _ _ _ z => False.elim z) fun C σ' Δ' G' H' e' s' q => k2 C G' H' s'.gr q
end
end
end Ts


/-! Operators that the hand layer lacks: tuple * n for n up to 1; an instance without __eq__ and __ne__ of its own against a text. -/
namespace Ts
open PySem PySem.Spec PyProof.Rows L2
theorem tuple_mul1 (l : Addr) (items : Array Value) (n : Nat) (dd : Option Addr) (sl : Array (Option Value)) (u : Tok) :
    Meets (Builtin.«tuple.__mul__» ⟨[.ref l, .int 1 u], []⟩) (fun _ R s => s.heap.get? l = some { cls := .type "tuple", dict := dd, data := .seq items n, slots := sl } ∧ R (.ok (.ret (Value.ref l))) s) :=
  .of_wp fun prog w A R s h => by
    obtain ⟨hp, g, d, tk, os⟩ := s
    obtain ⟨hl, h⟩ := h
    have f1 := AutoSeq1.idx_int
    wp_walk using wpAny_loadPart' hl
    exact ⟨_, rfl, h⟩
theorem tuple_mul0 (l : Addr) (items : Array Value) (n : Nat) (dd : Option Addr) (sl : Array (Option Value)) (u : Tok) (hi : items.isEmpty = false) :
    Meets (Builtin.«tuple.__mul__» ⟨[.ref l, .int 0 u], []⟩) (fun _ R s => s.heap.get? l = some { cls := .type "tuple", dict := dd, data := .seq items n, slots := sl } ∧
      R (.ok (.ret (Value.ref s.heap.objs.size))) { s with heap := s.heap.push { cls := Value.type "tuple", data := Data.seq #[] }, toks := s.toks }) :=
  .of_wp fun prog w A R s h => by
    obtain ⟨hp, g, d, tk, os⟩ := s
    obtain ⟨hl, h⟩ := h
    have f1 := AutoSeq1.idx_int
    wp_walk using wpAny_loadPart' hl
    exact ⟨_, rfl, h⟩
section
variable {X : Cx}
/-- (x, ..) * 1, (x, ..) * 0 -/
def rRepT1 (K : PySem.W.Frag) : R2 := fun x y H Q => ∃ (l : Addr) (xs : List V), x = .ref l ∧ y = .int 1 ∧ SqT K H l xs ∧ Q (.ref l) H
def rRepT0 (K : PySem.W.Frag) : R2 := fun x y H Q => ∃ (l : Addr) (xs : List V), x = .ref l ∧ y = .int 0 ∧ SqT K H l xs ∧ xs ≠ [] ∧ ∀ p, H p = none → Q (.ref p) (upd H p (.tup []))
theorem op_repT1 : OpR X (binaryOp .Mult) (rRepT1 X.K) := by
  intro pins s σ H x y v u Q I rx ry h
  obtain ⟨l, xs, rfl, rfl, hT, q⟩ := h
  cases rx
  obtain ⟨t, rfl⟩ := ry
  obtain ⟨its, r, ⟨⟨cls, dd, data, sl⟩, ho, hc, n, hd⟩, hs⟩ := I.tuple hT
  simp only at hc hd
  subst hc hd
  exact wpAny_binaryOp_repeat_ref (T := "tuple") (U := "int") (by decide) ⟨_, ho, rfl⟩ (fun s' => typeIs_int s' 1 t) noFill_tuple_mul F.fills_int_mul F.slot_int_rmul repeat_tuple F.slot_int_index.lookup
    (call_meets F.slot_int_rmul (typeIs_int s 1 t) F.entry_int_rmul (F.args_int_rmul_2 _ _) (int_rmul_tuple 1 t l its.toArray n dd sl)
      ⟨ho, rfl, ⟨_, ho, rfl⟩, call_meets F.slot_tuple_mul ⟨_, ho, rfl⟩ F.entry_tuple_mul (F.args_tuple_mul_2 _ _) (tuple_mul1 l its.toArray n dd sl t) ⟨ho, ⟨.ref l, H, I, rfl, q⟩⟩⟩)
theorem op_repT0 : OpR X (binaryOp .Mult) (rRepT0 X.K) := by
  intro pins s σ H x y v u Q I rx ry h
  obtain ⟨l, xs, rfl, rfl, hT, hne, q⟩ := h
  cases rx
  obtain ⟨t, rfl⟩ := ry
  obtain ⟨its, r, ⟨⟨cls, dd, data, sl⟩, ho, hc, n, hd⟩, hs⟩ := I.tuple hT
  simp only at hc hd
  subst hc hd
  have hi : its.toArray.isEmpty = false := by
    cases its with
    | nil =>
      cases r
      exact absurd rfl hne
    | cons a b => rfl
  refine wpAny_binaryOp_repeat_ref (T := "tuple") (U := "int") (by decide) ⟨_, ho, rfl⟩ (fun s' => typeIs_int s' 0 t) noFill_tuple_mul F.fills_int_mul F.slot_int_rmul repeat_tuple F.slot_int_index.lookup
    (call_meets F.slot_int_rmul (typeIs_int s 0 t) F.entry_int_rmul (F.args_int_rmul_2 _ _) (int_rmul_tuple 0 t l its.toArray n dd sl)
      ⟨ho, rfl, ⟨_, ho, rfl⟩, call_meets F.slot_tuple_mul ⟨_, ho, rfl⟩ F.entry_tuple_mul (F.args_tuple_mul_2 _ _) (tuple_mul0 l its.toArray n dd sl t hi) ⟨ho, ?_⟩⟩)
  refine ⟨.ref s.heap.objs.size, _, I.laid (t' := s.toks) (o := .tup []) (fun b ob q => Heap.get?_push_of_some _ q) (Nat.le_refl _) ?_, rfl, q _ (I.hok.fresh (Nat.le_refl _))⟩
  exact ⟨Nat.zero_le _, [], .nil, IsTup.new _ _⟩
end
end Ts
namespace Ts
open PySem PySem.Spec PyProof.Rows PySem.SeqAt
section
variable {M : Model} {prog : Program} {w : World} {A : Around} {E : Value → Shared → Prop} {s : Shared} {K : PySem.W.Frag} {x C dx : Addr} {od : Option Obj} {z : Str} {t : Tok}
theorem oe_isSame {R : Bool → Shared → Prop} (h : R false s) : wpAny M A (isSame (.ref x) (.str z t)) R E s := wpAny_of_eq (rfl : isSame (.ref x) (.str z t) = pure false) h
theorem oe_entry {Q : Fin → Shared → Prop} (hq : Q (.done (.ret .notImplemented)) s) : wpAny M A (Builtin.«object.__eq__» ⟨[.ref x, .str z t], []⟩) Q E s := by
  unfold Builtin.«object.__eq__»
  repeat (first | with_reducible refine oe_isSame ?_ | wp_step)
  exact hq
theorem oe_call {ox : Obj} {Q : Value → Shared → Prop} (X : K.In s.heap) (I : PySem.W.InstAt s.heap x ox C od) (hm : PySem.W.mroIn K C (.type "object") = some true) (hq : Q .notImplemented s) :
    wpAny (model prog w) A (call (.builtin "object.__eq__") [.ref x, .str z t]) Q E s :=
  wpAny_call (codeAny_call_builtin F.cmp_object.eq.plain F.cmpEntry_eq (PySem.W.check_slot F.cmpKind_eq F.cmpSplit_eq (I.type.andThen (PySem.W.looks_mroIn X hm)) (F.cmpArgs_eq _ _) (oe_entry hq)))
theorem on_bound {ox : Obj} {args : List Value} {Q : Option Value → Shared → Prop} (X : K.In s.heap) (I : PySem.W.InstAt s.heap x ox C od) (hs : PySem.W.findIn K (.ref C) "__ne__" = some (some (.builtin "object.__ne__")))
    (h : wpAny M A (call (.builtin "object.__ne__") (.ref x :: args)) (fun v => Q (some v)) E s) : wpAny M A (callSpecialIfBound? (.ref x) "__ne__" args) Q E s := by
  simp only [callSpecialIfBound?, bindSpecialIfBound?]
  refine wpAny_holding (wpAny_bind (wpAny_bind (wpAny_bind (I.type.here ((PySem.W.looks_findIn X hs).here ?_)))))
  refine wpAny_bind (wpAny_askSetting (wpAny_ite ?_))
  have fin : wpAny M A (call (.builtin "object.__ne__") ([.ref x] ++ args) >>= fun v => pure (some v)) Q E s := wpAny_bind (wpAny_mono h (fun v s' h' => wpAny_pure h') fun _ _ h' => h')
  split
  · exact wpAny_bind (wpAny_of_eq (F.cmp_object.ne.bind _) (wpAny_pure (by exact fin)))
  · exact wpAny_tryCatch (wpAny_bind (wpAny_of_eq (F.cmp_object.ne.bind _) (wpAny_pure (by exact fin))))
theorem on_entry {ox : Obj} {Q : Fin → Shared → Prop} (X : K.In s.heap) (I : PySem.W.InstAt s.heap x ox C od) (hm : PySem.W.mroIn K C (.type "object") = some true) (hs : PySem.W.findIn K (.ref C) "__eq__" = some (some (.builtin "object.__eq__"))) (hu : A.units < cLine)
    (hq : Q (.done (.ret .notImplemented)) s) : wpAny (model prog w) A (Builtin.«object.__ne__» ⟨[.ref x, .str z t], []⟩) Q E s := by
  unfold Builtin.«object.__ne__»
  repeat (first | with_reducible refine wpAny_cRoomFor hu ?_ | with_reducible refine HN.ifBound_objEq X I hs (oe_call X I hm ?_) | wp_step)
  exact hq
theorem on_call {ox : Obj} {Q : Value → Shared → Prop} (X : K.In s.heap) (I : PySem.W.InstAt s.heap x ox C od) (hm : PySem.W.mroIn K C (.type "object") = some true) (hs : PySem.W.findIn K (.ref C) "__eq__" = some (some (.builtin "object.__eq__"))) (hu : A.units + 1 < cLine) (hq : Q .notImplemented s) :
    wpAny (model prog w) A (call (.builtin "object.__ne__") [.ref x, .str z t]) Q E s :=
  wpAny_call (codeAny_call_builtin F.cmp_object.ne.plain F.cmpEntry_ne (PySem.W.check_slot F.cmpKind_ne F.cmpSplit_ne (I.type.andThen (PySem.W.looks_mroIn X hm)) (F.cmpArgs_ne _ _) (on_entry (A := A.in1) X I hm hs hu hq)))
theorem str_ne_ins (b : Str) (u : Tok) : Meets (Builtin.«str.__ne__» ⟨[.str b u, .ref x], []⟩) (fun _ R s => s.heap.get? x = some (PySem.W.instObj C dx) ∧ R (.ok (.ret .notImplemented)) s) :=
  .of_wp fun prog w A R s h => by obtain ⟨hp, g, d, tk, os⟩ := s; obtain ⟨hl, h⟩ := h; wp_walk using wpAny_loadPart' hl, wpAny_load hl; exact ⟨_, rfl, h⟩
theorem str_eq_ins (b : Str) (u : Tok) : Meets (Builtin.«str.__eq__» ⟨[.str b u, .ref x], []⟩) (fun _ R s => s.heap.get? x = some (PySem.W.instObj C dx) ∧ R (.ok (.ret .notImplemented)) s) :=
  .of_wp fun prog w A R s h => by obtain ⟨hp, g, d, tk, os⟩ := s; obtain ⟨hl, h⟩ := h; wp_walk using wpAny_loadPart' hl, wpAny_load hl; exact ⟨_, rfl, h⟩
theorem sub_strC : PySem.W.subIn K (.type "str") (.ref C) = some false := by
  have e : fastBuiltinMro "str" = some [.type "str", .type "object"] := by decide +kernel
  show (fastBuiltinMro "str").map (·.contains (.ref C)) = some false
  rw [e]
  first
    | rfl
    | simp
theorem ne_ins_str {Q : Value → Shared → Prop} (hu : A.units + 1 < cLine) (X : K.In s.heap) (I : PySem.W.InstAt s.heap x (PySem.W.instObj C dx) C od) (hx : s.heap.get? x = some (PySem.W.instObj C dx)) (hm : PySem.W.mroIn K C (.type "object") = some true)
    (hs : PySem.W.findIn K (.ref C) "__eq__" = some (some (.builtin "object.__eq__"))) (hs2 : PySem.W.findIn K (.ref C) "__ne__" = some (some (.builtin "object.__ne__"))) (h : Q (.bool true) s) :
    wpAny (model prog w) A (richCompare .NotEq (.ref x) (.str z t)) Q E s := by
  have one : wpAny (model prog w) A (tryCompare (.ref x) "__ne__" (.str z t)) (fun r s' => r = none ∧ s' = s) E s := by
    unfold tryCompare
    exact wpAny_bind (on_bound X I hs2 (on_call X I hm hs hu (wpAny_pure ⟨rfl, rfl⟩)))
  have two : wpAny (model prog w) A (tryCompare (.str z t) "__ne__" (.ref x)) (fun r s' => r = none ∧ s' = s) E s :=
    wpAny_tryCompare_declines (typeIs_str s z t) F.slot_str_ne_refl (call_meets F.slot_str_ne_refl (typeIs_str s z t) F.entry_str_ne (F.args_str_ne_2 _ _) (str_ne_ins (x := x) (C := C) (dx := dx) z t) ⟨hx, rfl, rfl, rfl⟩)
  simp only [richCompare, cmpInfo_NotEq, oneThing_ref]
  refine wpAny_holding (wpAny_bind (wpAny_cRoomFor (Nat.lt_of_succ_lt hu) ?_))
  refine wpAny_bind (I.type.here ?_)
  refine wpAny_bind (wpAny_typeOf (typeIs_str s z t) ?_)
  split
  · refine wpAny_bind ((PySem.W.looks_subIn X sub_strC).here ?_)
    simp only [Bool.false_eq_true, if_false, Bool.not_false, if_true]
    refine wpAny_bind (m := tryCompare (.ref x) _ (.str z t)) (wpAny_mono one (fun r s1 z => ?_) fun _ _ e => e)
    obtain ⟨z1, z2⟩ := z
    subst z1
    subst z2
    refine wpAny_bind (m := tryCompare (.str _ t) _ (.ref x)) (wpAny_mono two (fun r s2 z => ?_) fun _ _ e => e)
    obtain ⟨z1, z2⟩ := z
    subst z1
    subst z2
    exact wpAny_bind (wpAny_rule (wpAny_bind (wpAny_of_eq (rfl : isSame (.ref x) (.str _ t) = pure false) (wpAny_pure h))))
  · rename_i q
    exact absurd (by simp) q
theorem eq_ins_str {Q : Value → Shared → Prop} (hu : A.units < cLine) (X : K.In s.heap) (I : PySem.W.InstAt s.heap x (PySem.W.instObj C dx) C od) (hx : s.heap.get? x = some (PySem.W.instObj C dx)) (hm : PySem.W.mroIn K C (.type "object") = some true)
    (hs : PySem.W.findIn K (.ref C) "__eq__" = some (some (.builtin "object.__eq__"))) (h : Q (.bool false) s) :
    wpAny (model prog w) A (richCompare .Eq (.ref x) (.str z t)) Q E s := by
  have one : wpAny (model prog w) A (tryCompare (.ref x) "__eq__" (.str z t)) (fun r s' => r = none ∧ s' = s) E s := by
    unfold tryCompare
    exact wpAny_bind (HN.ifBound_objEq X I hs (oe_call X I hm (wpAny_pure ⟨rfl, rfl⟩)))
  have two : wpAny (model prog w) A (tryCompare (.str z t) "__eq__" (.ref x)) (fun r s' => r = none ∧ s' = s) E s :=
    wpAny_tryCompare_declines (typeIs_str s z t) F.slot_str_eq_refl (call_meets F.slot_str_eq_refl (typeIs_str s z t) F.entry_str_eq (F.args_str_eq_2 _ _) (str_eq_ins (x := x) (C := C) (dx := dx) z t) ⟨hx, rfl, rfl, rfl⟩)
  simp only [richCompare, cmpInfo_Eq, oneThing_ref]
  refine wpAny_holding (wpAny_bind (wpAny_cRoomFor hu ?_))
  refine wpAny_bind (I.type.here ?_)
  refine wpAny_bind (wpAny_typeOf (typeIs_str s z t) ?_)
  split
  · refine wpAny_bind ((PySem.W.looks_subIn X sub_strC).here ?_)
    simp only [Bool.false_eq_true, if_false, Bool.not_false, if_true]
    refine wpAny_bind (m := tryCompare (.ref x) _ (.str z t)) (wpAny_mono one (fun r s1 z => ?_) fun _ _ e => e)
    obtain ⟨z1, z2⟩ := z
    subst z1
    subst z2
    refine wpAny_bind (m := tryCompare (.str _ t) _ (.ref x)) (wpAny_mono two (fun r s2 z => ?_) fun _ _ e => e)
    obtain ⟨z1, z2⟩ := z
    subst z1
    subst z2
    exact wpAny_bind (wpAny_rule (wpAny_bind (wpAny_of_eq (rfl : isSame (.ref x) (.str _ t) = pure false) (wpAny_pure h))))
  · rename_i q
    exact absurd (by simp) q
end
open L2
section
variable {X : Cx}
/-- a class that takes == and != from object -/
structure PlainEq (K : PySem.W.Frag) (C : Addr) : Prop where
  mro : PySem.W.mroIn K C (.type "object") = some true
  eq : PySem.W.findIn K (.ref C) "__eq__" = some (some (.builtin "object.__eq__"))
  ne : PySem.W.findIn K (.ref C) "__ne__" = some (some (.builtin "object.__ne__"))
def rOS (K : PySem.W.Frag) (b : Bool) : R2 := fun x y H Q => ∃ (a C dx : Addr) (fs : List (Str × V)) (z : Str), x = .ref a ∧ y = .str z ∧ H a = some (.ins C dx fs) ∧ PlainEq K C ∧ Q (.bl b) H
theorem op_neOS (hu : X.A.units + 64 < cLine) : OpR X (compareOp .NotEq) (rOS X.K true) := by
  intro pins s σ H x y v u Q I rx ry h
  obtain ⟨a, C, dx, fs, z, rfl, rfl, ha, pe, q⟩ := h
  cases rx
  obtain ⟨t, rfl⟩ := ry
  obtain ⟨mA, O, _⟩ := ins_get I.hok ha
  obtain ⟨od, J, _⟩ := O.look
  exact ne_ins_str (by omega) I.kIn J O.obj pe.mro pe.eq pe.ne ⟨.bl true, H, I, rfl, q⟩
theorem op_eqOS (hu : X.A.units + 64 < cLine) : OpR X (compareOp .Eq) (rOS X.K false) := by
  intro pins s σ H x y v u Q I rx ry h
  obtain ⟨a, C, dx, fs, z, rfl, rfl, ha, pe, q⟩ := h
  cases rx
  obtain ⟨t, rfl⟩ := ry
  obtain ⟨mA, O, _⟩ := ins_get I.hok ha
  obtain ⟨od, J, _⟩ := O.look
  exact eq_ins_str (by omega) I.kIn J O.obj pe.mro pe.eq ⟨.bl false, H, I, rfl, q⟩
end
end Ts


namespace Ts
variable [Tt]
open PySem PySem.Spec PyProof.Rows L2

/-! ### one rule for each operator, whatever its values -/
section
variable {X : Cx}
theorem OpR.or {f : Value → Value → Sem Value} {r r' : R2} (h : OpR X f r) (h' : OpR X f r') : OpR X f (fun x y H Q => r x y H Q ∨ r' x y H Q) := by
  intro pins s σ H x y v u Q I rx ry q
  rcases q with q | q
  · exact h pins s σ H x y v u Q I rx ry q
  · exact h' pins s σ H x y v u Q I rx ry q
theorem CallR.or {f : Value} {r r' : List V → Hp → VK → Prop} (h : CallR X f r) (h' : CallR X f r') : CallR X f (fun xs H Q => r xs H Q ∨ r' xs H Q) := by
  intro pins s σ H xs us Q I rx q
  rcases q with q | q
  · exact h pins s σ H xs us Q I rx q
  · exact h' pins s σ H xs us Q I rx q
theorem SlR.or {r r' : V → Option Int → Option Int → Hp → VK → Prop} (h : SlR X r) (h' : SlR X r') : SlR X (fun x lo hi H Q => r x lo hi H Q ∨ r' x lo hi H Q) := by
  intro pins s σ H x v vl vu lo hi sl Q I rx hs pl pu q
  rcases q with q | q
  · exact h pins s σ H x v vl vu lo hi sl Q I rx hs pl pu q
  · exact h' pins s σ H x v vl vu lo hi sl Q I rx hs pl pu q
theorem PIp.or {op : Operator} {r r' : TIp} (h : PIp X op r) (h' : PIp X op r') : PIp X op (fun x y H Q => r x y H Q ∨ r' x y H Q) := by
  intro pins s σ H x y v u Q I rx ry q
  rcases q with q | q
  · exact h pins s σ H x y v u Q I rx ry q
  · exact h' pins s σ H x y v u Q I rx ry q
theorem pi_or {tg e : Expr} {w w' : TI} (h : PI X tg e w) (h' : PI X tg e w') : PI X tg e (fun σ H R => w σ H R ∨ w' σ H R) := by
  refine ⟨fun pins s σ H R I q => ?_⟩
  rcases q with q | q
  · exact h.run pins s σ H R I q
  · exact h'.run pins s σ H R I q
end
def rAddS : R2 := fun x y H Q => ∃ i j, x = .str i ∧ y = .str j ∧ i.length + j.length ≤ sizeLine ∧ Q (.str (i ++ j)) H
def rAddG (K : PySem.W.Frag) : R2 := fun x y H Q => rI0 (fun i j => .int (i + j)) x y H Q ∨ (rAddS x y H Q ∨ (rCatA K x y H Q ∨ rCat x y H Q))
def rSubG : R2 := rI0 fun i j => .int (i - j)
def rMulG (K : PySem.W.Frag) : R2 := fun x y H Q => rI CMul (fun i j => .int (i * j)) x y H Q ∨ (rI CMulW (fun i j => .int (i * j)) x y H Q ∨ (rRep x y H Q ∨ (rRepT K x y H Q ∨ (rRepT1 K x y H Q ∨ rRepT0 K x y H Q))))
def rDivG : R2 := rI CDivW fun i j => .int (i / j)
def rModG : R2 := rI (fun _ j => 0 < j) fun i j => .int (i % j)
def rPowG : R2 := rI CPow fun i j => .int (i ^ j.toNat)
def rEqG (K : PySem.W.Frag) : R2 := fun x y H Q => rEq x y H Q ∨ (rEqD K x y H Q ∨ rOS K false x y H Q)
def rNeG (K : PySem.W.Frag) : R2 := fun x y H Q => rNe x y H Q ∨ (rNeD K x y H Q ∨ rOS K true x y H Q)
def rLtS : R2 := fun x y H Q => ∃ i j, x = .str i ∧ y = .str j ∧ Q (.bl (decide (i.cps.toList < j.cps.toList))) H
def rLtG (K : PySem.W.Frag) : R2 := fun x y H Q => rI0 (fun i j => .bl (decide (i < j))) x y H Q ∨ (rLtS x y H Q ∨ rLtT K x y H Q)
def rLeG : R2 := rI0 fun i j => .bl (decide (i ≤ j))
def rGtG : R2 := rI0 fun i j => .bl (decide (j < i))
def rGeG : R2 := rI0 fun i j => .bl (decide (j ≤ i))
def rInS (neg : Bool) : R2 := fun x y H Q => ∃ i j, x = .str i ∧ y = .str j ∧ Q (.bl (if neg then !(!(Builtin.Str.occurrences j i 0 j.length 1).isEmpty) else !(Builtin.Str.occurrences j i 0 j.length 1).isEmpty)) H
def rInG (K : PySem.W.Frag) (neg : Bool) : R2 := fun x y H Q => rIn K neg x y H Q ∨ rInS neg x y H Q
def rIsN : R2 := fun x y H Q => y = .non ∧ Q (.bl (decide (x = .non))) H
def rNotN : R2 := fun x y H Q => y = .non ∧ Q (.bl (!decide (x = .non))) H
def rSlG (K : PySem.W.Frag) : V → Option Int → Option Int → Hp → VK → Prop := fun x lo hi H Q => rSlL K x lo hi H Q ∨ (rSlA K x lo hi H Q ∨ rSlS x lo hi H Q)
def rInt1 : List V → Hp → VK → Prop := fun xs H Q => (∃ i, xs = [.int i] ∧ Q (.int i) H) ∨ ∃ k, xs = [.bl k] ∧ Q (.int (if k then 1 else 0)) H
def rAbs : List V → Hp → VK → Prop := fun xs H Q => ∃ i, xs = [.int i] ∧ Q (.int (if i < 0 then -i else i)) H
def rTupO (K : PySem.W.Frag) : List V → Hp → VK → Prop := fun xs H Q => ∃ p ys, xs = [.ref p] ∧ ((SqL K H p ys ∧ ∀ l, H l = none → Q (.ref l) (upd H l (.tup ys))) ∨ (SqT K H p ys ∧ Q (.ref p) H))
def rLstO (K : PySem.W.Frag) : List V → Hp → VK → Prop := fun xs H Q => ∃ p ys, xs = [.ref p] ∧ (SqL K H p ys ∨ SqT K H p ys) ∧ ∀ l, H l = none → Q (.ref l) (upd H l (.lst ys))
def rMin2 : List V → Hp → VK → Prop := fun xs H Q => ∃ i j, xs = [.int i, .int j] ∧ Q (.int (if j < i then j else i)) H
def rMax2 : List V → Hp → VK → Prop := fun xs H Q => ∃ i j, xs = [.int i, .int j] ∧ Q (.int (if j > i then j else i)) H
def rIns : V → List V → Hp → VK → Prop := fun x vs H Q => ∃ (l : Addr) (xs : List V) (i : Int) (y : V), x = .ref l ∧ vs = [.int i, y] ∧ H l = some (.lst xs) ∧ xs.length < sizeLine ∧ 0 ≤ i ∧ i < 2 ^ 63 ∧
  Q .non (upd H l (.lst (xs.take i.toNat ++ [y] ++ xs.drop i.toNat)))
section
variable {X : Cx}
theorem op_addG : OpR X (binaryOp .Add) (rAddG X.K) := OpR.or op_add (OpR.or op_add_str (OpR.or op_catA op_cat))
theorem op_subG : OpR X (binaryOp .Sub) rSubG := op_sub
theorem op_mulG : OpR X (binaryOp .Mult) (rMulG X.K) := OpR.or op_mul (OpR.or op_mulW (OpR.or op_rep (OpR.or op_repT (OpR.or op_repT1 op_repT0))))
theorem op_divG : OpR X (binaryOp .FloorDiv) rDivG := op_fdivW
theorem op_modG : OpR X (binaryOp .Mod) rModG := op_mod
theorem op_powG : OpR X (binaryOp .Pow) rPowG := op_pow
theorem op_eqG (hu : X.A.units + 64 < cLine) : OpR X (compareOp .Eq) (rEqG X.K) := OpR.or op_eq (OpR.or (op_eqD hu) (op_eqOS hu))
theorem op_neG (hu : X.A.units + 64 < cLine) : OpR X (compareOp .NotEq) (rNeG X.K) := OpR.or op_ne (OpR.or (op_neD hu) (op_neOS hu))
theorem op_ltG (hu : X.A.units < cLine) : OpR X (compareOp .Lt) (rLtG X.K) := OpR.or op_lt (OpR.or op_lt_str (op_ltT hu))
theorem op_leG : OpR X (compareOp .LtE) rLeG := op_le
theorem op_gtG : OpR X (compareOp .Gt) rGtG := op_gt
theorem op_geG : OpR X (compareOp .GtE) rGeG := op_ge
theorem op_inG : OpR X (compareOp .In) (rInG X.K false) := OpR.or op_in_seq op_in_str
theorem op_notInG : OpR X (compareOp .NotIn) (rInG X.K true) := OpR.or op_notIn_seq op_notIn_str
theorem op_isNG : OpR X (compareOp .Is) rIsN := op_isN
theorem op_notNG : OpR X (compareOp .IsNot) rNotN := op_notN
theorem sl_G : SlR X (rSlG X.K) := SlR.or sl_list (SlR.or sl_tupA sl_str)
theorem call_lenG : CallR X (.builtin "len") (rLenC X.K) := call_len
theorem call_intG : CallR X (.type "int") rInt1 := call_int1
theorem call_absG : CallR X (.builtin "abs") rAbs := call_abs
theorem call_tupG : CallR X (.type "tuple") (rTupO X.K) := call_tuple_of
theorem call_lstG : CallR X (.type "list") (rLstO X.K) := call_list_of
theorem call_minG (hc : X.calm = true) : CallR X (.builtin "min") rMin2 := call_min2 hc
theorem call_maxG (hc : X.calm = true) : CallR X (.builtin "max") rMax2 := call_max2 hc
end
/-- a walk over a list, a tuple, a text -/
def iSeq (K : PySem.W.Frag) (te : TE) : TI := fun σ H R => iList K te σ H R ∨ (iTup K te σ H R ∨ iStr te σ H R)
theorem pi_seq {X : Cx} {tg e : Expr} {te : TE} (h : PE X e te) : PI X tg e (iSeq X.K te) := pi_or (pi_list h) (pi_or (pi_tup h) (pi_str h))

/-! ### the operations over data -/
section
variable {K : PySem.W.Frag}
theorem ret1 {G H : Hp} {v : V} {d : D} {Q : VK} (e : Exx G H) (r : Rp K G v d) (k : ∀ (u : V) (d' : D) (G' H' : Hp), Gr none G H G' H' → Rp K G' u d' → d' = d → Q u H') : Q v H := k v d G H (Gr.refl e) r rfl
theorem od_int {g : Int → Int → V} {h : Int → Int → D} {i j : Int} (hg : ∀ G, Rp K G (g i j) (h i j)) : OpD K (rI0 g) (.int i) (.int j) (· = h i j) := fun G H v w Q e r1 r2 k => by
  cases r1; cases r2
  exact ⟨i, j, rfl, rfl, ret1 e (hg G) k⟩
theorem od_intC {C : Int → Int → Prop} {g : Int → Int → V} {h : Int → Int → D} {i j : Int} (hc : C i j) (hg : ∀ G, Rp K G (g i j) (h i j)) : OpD K (rI C g) (.int i) (.int j) (· = h i j) := fun G H v w Q e r1 r2 k => by
  cases r1; cases r2
  exact ⟨i, j, rfl, rfl, hc, ret1 e (hg G) k⟩
theorem od_inl {r r' : R2} {x y : D} {R : D → Prop} (h : OpD K r x y R) : OpD K (fun x y H Q => r x y H Q ∨ r' x y H Q) x y R := fun G H v w Q e r1 r2 k => .inl (h G H v w Q e r1 r2 k)
theorem od_inr {r r' : R2} {x y : D} {R : D → Prop} (h : OpD K r' x y R) : OpD K (fun x y H Q => r x y H Q ∨ r' x y H Q) x y R := fun G H v w Q e r1 r2 k => .inr (h G H v w Q e r1 r2 k)
theorem od_add {i j : Int} : OpD K (rAddG K) (.int i) (.int j) (· = .int (i + j)) := od_inl (od_int (g := fun i j => .int (i + j)) (h := fun i j => .int (i + j)) fun G => .int _)
theorem od_sub {i j : Int} : OpD K rSubG (.int i) (.int j) (· = .int (i - j)) := od_int (g := fun i j => .int (i - j)) (h := fun i j => .int (i - j)) fun G => .int _
theorem od_mul {i j : Int} (h : CMul i j) : OpD K (rMulG K) (.int i) (.int j) (· = .int (i * j)) := od_inl (od_intC (g := fun i j => .int (i * j)) (h := fun i j => .int (i * j)) h fun G => .int _)
theorem od_mulW {i j : Int} (h : CMulW i j) : OpD K (rMulG K) (.int i) (.int j) (· = .int (i * j)) := od_inr (od_inl (od_intC (g := fun i j => .int (i * j)) (h := fun i j => .int (i * j)) h fun G => .int _))
theorem od_div {i j : Int} (h : CDivW i j) : OpD K rDivG (.int i) (.int j) (· = .int (i / j)) := od_intC (g := fun i j => .int (i / j)) (h := fun i j => .int (i / j)) h fun G => .int _
theorem od_mod {i j : Int} (h : 0 < j) : OpD K rModG (.int i) (.int j) (· = .int (i % j)) := od_intC (g := fun i j => .int (i % j)) (h := fun i j => .int (i % j)) h fun G => .int _
theorem od_pow {i j : Int} (h : CPow i j) : OpD K rPowG (.int i) (.int j) (· = .int (i ^ j.toNat)) := od_intC (g := fun i j => .int (i ^ j.toNat)) (h := fun i j => .int (i ^ j.toNat)) h fun G => .int _
theorem od_lt {i j : Int} : OpD K (rLtG K) (.int i) (.int j) (· = .bl (decide (i < j))) := od_inl (od_int (g := fun i j => .bl (decide (i < j))) (h := fun i j => .bl (decide (i < j))) fun G => .bl _)
theorem od_le {i j : Int} : OpD K rLeG (.int i) (.int j) (· = .bl (decide (i ≤ j))) := od_int (g := fun i j => .bl (decide (i ≤ j))) (h := fun i j => .bl (decide (i ≤ j))) fun G => .bl _
theorem od_gt {i j : Int} : OpD K rGtG (.int i) (.int j) (· = .bl (decide (j < i))) := od_int (g := fun i j => .bl (decide (j < i))) (h := fun i j => .bl (decide (j < i))) fun G => .bl _
theorem od_ge {i j : Int} : OpD K rGeG (.int i) (.int j) (· = .bl (decide (j ≤ i))) := od_int (g := fun i j => .bl (decide (j ≤ i))) (h := fun i j => .bl (decide (j ≤ i))) fun G => .bl _
/-- scalars, as values -/
def D.v : D → Option V
  | .non => some .non
  | .bl b => some (.bl b)
  | .int i => some (.int i)
  | .str x => some (.str x)
  | _ => none
theorem Rp.sc {G : Hp} {v w : V} {d : D} (r : Rp K G v d) (h : d.v = some w) : v = w := by
  cases r <;> cases h <;> rfl
theorem od_eqS {x y : D} {v w : V} (hx : x.v = some v) (hy : y.v = some w) (hs : scal v w = true) : OpD K (rEqG K) x y (· = .bl (decide (v = w))) := fun G H v' w' Q e r1 r2 k => by
  rw [r1.sc hx, r2.sc hy]
  exact .inl ⟨hs, ret1 e (.bl _) k⟩
theorem od_neS {x y : D} {v w : V} (hx : x.v = some v) (hy : y.v = some w) (hs : scal v w = true) : OpD K (rNeG K) x y (· = .bl (!decide (v = w))) := fun G H v' w' Q e r1 r2 k => by
  rw [r1.sc hx, r2.sc hy]
  exact .inl ⟨hs, ret1 e (.bl _) k⟩
theorem od_eqI {i j : Int} : OpD K (rEqG K) (.int i) (.int j) (· = .bl (decide (i = j))) := by
  have h : OpD K (rEqG K) (.int i) (.int j) (· = .bl (decide (V.int i = V.int j))) := od_eqS rfl rfl rfl
  have e : decide (V.int i = V.int j) = decide (i = j) := by rw [Bool.eq_iff_iff]; simp
  rw [e] at h
  exact h
theorem od_neI {i j : Int} : OpD K (rNeG K) (.int i) (.int j) (· = .bl (!decide (i = j))) := by
  have h : OpD K (rNeG K) (.int i) (.int j) (· = .bl (!decide (V.int i = V.int j))) := od_neS rfl rfl rfl
  have e : decide (V.int i = V.int j) = decide (i = j) := by rw [Bool.eq_iff_iff]; simp
  rw [e] at h
  exact h
theorem od_eqB {i j : Bool} : OpD K (rEqG K) (.bl i) (.bl j) (· = .bl (i == j)) := by
  have h : OpD K (rEqG K) (.bl i) (.bl j) (· = .bl (decide (V.bl i = V.bl j))) := od_eqS rfl rfl rfl
  rw [dec_bl] at h
  exact h
theorem od_neB {i j : Bool} : OpD K (rNeG K) (.bl i) (.bl j) (· = .bl (i != j)) := by
  have h : OpD K (rNeG K) (.bl i) (.bl j) (· = .bl (!decide (V.bl i = V.bl j))) := od_neS rfl rfl rfl
  rw [dec_bl] at h
  exact h
theorem od_eqX {i j : Str} : OpD K (rEqG K) (.str i) (.str j) (· = .bl (decide (i = j))) := by
  have h : OpD K (rEqG K) (.str i) (.str j) (· = .bl (decide (V.str i = V.str j))) := od_eqS rfl rfl rfl
  have e : decide (V.str i = V.str j) = decide (i = j) := by rw [Bool.eq_iff_iff]; simp
  rw [e] at h
  exact h
theorem od_neX {i j : Str} : OpD K (rNeG K) (.str i) (.str j) (· = .bl (!decide (i = j))) := by
  have h : OpD K (rNeG K) (.str i) (.str j) (· = .bl (!decide (V.str i = V.str j))) := od_neS rfl rfl rfl
  have e : decide (V.str i = V.str j) = decide (i = j) := by rw [Bool.eq_iff_iff]; simp
  rw [e] at h
  exact h
/-! deep == -/
mutual
def D.py : D → PyData
  | .non => .none
  | .bl b => .bool b
  | .int i => .int i
  | .str x => .str x
  | .lst xs => .list (D.pys xs)
  | .tup xs => .tuple (D.pys xs)
  | .obj _ _ => .none
def D.pys : List D → List PyData
  | [] => []
  | d :: ds => d.py :: D.pys ds
end
mutual
/-- no instance within -/
def D.pure : D → Bool
  | .lst xs => D.pures xs
  | .tup xs => D.pures xs
  | .obj _ _ => false
  | _ => true
def D.pures : List D → Bool
  | [] => true
  | d :: ds => d.pure && D.pures ds
end
mutual
theorem Rp.dp {G H : Hp} (e : Exx G H) : ∀ {v : V} {d : D}, Rp K G v d → d.pure = true → Dp K H v d.py
  | _, _, .non, _ => .non
  | _, _, .bl b, _ => .bl b
  | _, _, .int i, _ => .int i
  | _, _, .str x, _ => .str x
  | _, _, .lst h r, p => .lst (.inl (.inl (e.l h))) (RpL.dp e r p)
  | _, _, .tup h r, p => .tup (st_ex e h) (RpL.dp e r p)
  | _, _, .obj h r, p => nomatch p
theorem RpL.dp {G H : Hp} (e : Exx G H) : ∀ {vs : List V} {ds : List D}, RpL K G vs ds → D.pures ds = true → DpAll K H vs (D.pys ds)
  | _, _, .nil, _ => .nil
  | _, _, .cons h r, p => by
    have p' := Bool.and_eq_true_iff.mp p
    exact .cons (Rp.dp e h p'.1) (RpL.dp e r p'.2)
end
/-- what == can look at -/
def D.ok (d : D) : Bool := d.pure && SeqAt.shaped d.py
theorem od_eqD {x y : D} (hx : x.ok = true) (hy : y.ok = true) : OpD K (rEqG K) x y (· = .bl (PyData.eqv x.py y.py)) := fun G H v w Q e r1 r2 k => by
  obtain ⟨a1, a2⟩ := Bool.and_eq_true_iff.mp hx
  obtain ⟨b1, b2⟩ := Bool.and_eq_true_iff.mp hy
  exact .inr (.inl ⟨_, _, r1.dp e a1, r2.dp e b1, a2, b2, ret1 e (.bl _) k⟩)
theorem od_neD {x y : D} (hx : x.ok = true) (hy : y.ok = true) : OpD K (rNeG K) x y (· = .bl (!PyData.eqv x.py y.py)) := fun G H v w Q e r1 r2 k => by
  obtain ⟨a1, a2⟩ := Bool.and_eq_true_iff.mp hx
  obtain ⟨b1, b2⟩ := Bool.and_eq_true_iff.mp hy
  exact .inr (.inl ⟨_, _, r1.dp e a1, r2.dp e b1, a2, b2, ret1 e (.bl _) k⟩)
theorem D.eqv_self {d : D} (h : d.ok = true) : PyData.eqv d.py d.py = true := SeqAt.eqv_refl d.py (SeqAt.canLay_of_shaped (Bool.and_eq_true_iff.mp h).2)
theorem od_neSelf {x y : D} (hx : x.ok = true) (e : x = y) : OpD K (rNeG K) x y (· = .bl false) := by
  subst e
  have h := od_neD (K := K) hx hx
  rw [D.eqv_self hx] at h
  exact h
theorem od_eqSelf {x y : D} (hx : x.ok = true) (e : x = y) : OpD K (rEqG K) x y (· = .bl true) := by
  subst e
  have h := od_eqD (K := K) hx hx
  rw [D.eqv_self hx] at h
  exact h
/-! places -/
theorem RpL.at_ {G : Hp} {vs : List V} {ds : List D} {i : Int} {d : D} (r : RpL K G vs ds) (h : atI ds i = some d) : ∃ v, atI vs i = some v ∧ Rp K G v d := by
  unfold atI at h ⊢
  rw [r.length]
  cases e : ixN ds.length i with
  | none => rw [e] at h; cases h
  | some l =>
    rw [e] at h
    exact r.get h
theorem od_ixL {ds : List D} {i : Int} {d : D} (h : atI ds i = some d) : OpD K (rIx K) (.lst ds) (.int i) (· = d) := fun G H v w Q e r1 r2 k => by
  cases r2
  obtain ⟨a, xs, rfl, ha, hr⟩ := r1.lst_inv
  obtain ⟨u, h1, h2⟩ := hr.at_ h
  exact .inl ⟨a, xs, i, u, rfl, rfl, .inl (.inl (e.l ha)), h1, ret1 e h2 k⟩
theorem od_ixT {ds : List D} {i : Int} {d : D} (h : atI ds i = some d) : OpD K (rIx K) (.tup ds) (.int i) (· = d) := fun G H v w Q e r1 r2 k => by
  cases r2
  obtain ⟨a, xs, rfl, ha, hr⟩ := r1.tup_inv
  obtain ⟨u, h1, h2⟩ := hr.at_ h
  exact .inr (.inl ⟨a, xs, i, u, rfl, rfl, st_ex e ha, h1, ret1 e h2 k⟩)
theorem od_ixS {z : Str} {i : Int} {c : Nat} (hz : z.length ≤ sizeLine) (h : atI z.cps.toList i = some c) : OpD K (rIx K) (.str z) (.int i) (· = .str ⟨#[c]⟩) := fun G H v w Q e r1 r2 k => by
  cases r2
  cases r1
  exact .inr (.inr ⟨z, i, c, rfl, rfl, hz, h, ret1 e (.str _) k⟩)
theorem atI_nn {α : Type} {xs : List α} {i : Int} {d : α} (h0 : 0 ≤ i) (h : xs[i.toNat]? = some d) : atI xs i = some d := by
  have := atI_nat h
  rwa [Int.toNat_of_nonneg h0] at this
/-! joining -/
theorem od_catT {xs ys : List D} (hz : xs.length + ys.length ≤ sizeLine) : OpD K (rAddG K) (.tup xs) (.tup ys) (· = .tup (xs ++ ys)) := fun G H v w Q e r1 r2 k => by
  obtain ⟨a, as, rfl, ha, hr⟩ := r1.tup_inv
  obtain ⟨b, bs, rfl, hb, hs⟩ := r2.tup_inv
  have la := hr.length
  have lb := hs.length
  refine .inr (.inr (.inl ⟨a, b, as, bs, rfl, rfl, st_ex e ha, st_ex e hb, by omega, fun z => ?_, fun _ z => ?_, fun _ _ p hp => ?_⟩))
  · subst z
    cases hr
    exact ret1 e (.tup hb hs) k
  · subst z
    cases hs
    exact ret1 e (.tup ha (by rw [List.append_nil]; exact hr)) k
  · have g := Gr.new (o := .tup (as ++ bs)) e hp
    exact k _ _ _ _ g (.tup (.inl (.inl upd_same)) ((hr.append hs).ex g.ex)) rfl
theorem od_catL {xs ys : List D} (hz : xs.length + ys.length ≤ sizeLine) : OpD K (rAddG K) (.lst xs) (.lst ys) (· = .lst (xs ++ ys)) := fun G H v w Q e r1 r2 k => by
  obtain ⟨a, as, rfl, ha, hr⟩ := r1.lst_inv
  obtain ⟨b, bs, rfl, hb, hs⟩ := r2.lst_inv
  have la := hr.length
  have lb := hs.length
  refine .inr (.inr (.inr ⟨a, b, as, bs, rfl, rfl, e.l ha, e.l hb, by omega, fun p hp => ?_⟩))
  have g := Gr.new (o := .lst (as ++ bs)) e hp
  exact k _ _ _ _ g (.lst upd_same ((hr.append hs).ex g.ex)) rfl
theorem od_catS {x y : Str} (hz : x.length + y.length ≤ sizeLine) : OpD K (rAddG K) (.str x) (.str y) (· = .str (x ++ y)) := fun G H v w Q e r1 r2 k => by
  cases r1; cases r2
  exact .inr (.inl ⟨x, y, rfl, rfl, hz, ret1 e (.str _) k⟩)
theorem od_repL {xs : List D} {n : Int} (h1 : -(2 ^ 63) ≤ n) (h2 : n < 2 ^ 63) (hz : xs.length * n.toNat ≤ sizeLine) : OpD K (rMulG K) (.lst xs) (.int n) (· = .lst (List.replicate n.toNat xs).flatten) := fun G H v w Q e r1 r2 k => by
  cases r2
  obtain ⟨a, as, rfl, ha, hr⟩ := r1.lst_inv
  refine .inr (.inr (.inl ⟨a, n, as, rfl, rfl, e.l ha, h1, h2, by rw [hr.length]; exact hz, fun p hp => ?_⟩))
  have g := Gr.new (o := .lst (List.replicate n.toNat as).flatten) e hp
  have rr : ∀ m : Nat, RpL K G (List.replicate m as).flatten (List.replicate m xs).flatten := fun m => by
    induction m with
    | zero => exact .nil
    | succ m ih =>
      rw [List.replicate_succ, List.replicate_succ, List.flatten_cons, List.flatten_cons]
      exact hr.append ih
  exact k _ _ _ _ g (.lst upd_same ((rr _).ex g.ex)) rfl
/-! cutting -/
def cutD (xs : List D) (lo hi : Option Int) : List D := (xs.drop (HT.sIx xs.length 0 lo)).take (HT.sIx xs.length xs.length hi - HT.sIx xs.length 0 lo)
theorem RpL.cut {G : Hp} {vs : List V} {ds : List D} (r : RpL K G vs ds) (lo hi : Option Int) : RpL K G (cutV vs lo hi) (cutD ds lo hi) := by
  unfold cutV cutD
  rw [r.length]
  exact (r.drop _).take _
theorem sd_lst {xs : List D} {lo hi : Option Int} : SlD K (rSlG K) (.lst xs) lo hi (· = .lst (cutD xs lo hi)) := fun G H v Q e r k => by
  obtain ⟨a, as, rfl, ha, hr⟩ := r.lst_inv
  refine .inl ⟨a, as, rfl, .inl (.inl (e.l ha)), fun p hp => ?_⟩
  have g := Gr.new (o := .lst (cutV as lo hi)) e hp
  exact k _ _ _ _ g (.lst upd_same ((hr.cut lo hi).ex g.ex)) rfl
theorem sd_tup {xs : List D} {lo hi : Option Int} : SlD K (rSlG K) (.tup xs) lo hi (· = .tup (cutD xs lo hi)) := fun G H v Q e r k => by
  obtain ⟨a, as, rfl, ha, hr⟩ := r.tup_inv
  refine .inr (.inl ⟨a, as, rfl, st_ex e ha, fun z => ?_, fun _ p hp => ?_⟩)
  · refine k _ _ _ _ (Gr.refl e) (.tup ha hr) ?_
    rw [hr.length] at z
    unfold cutD
    rw [z.1, z.2]
    simp
  · have g := Gr.new (o := .tup (cutV as lo hi)) e hp
    exact k _ _ _ _ g (.tup (.inl (.inl upd_same)) ((hr.cut lo hi).ex g.ex)) rfl
theorem sd_str {z : Str} {lo hi : Option Int} (hz : z.length ≤ sizeLine) : SlD K (rSlG K) (.str z) lo hi (· = .str (cutS z lo hi)) := fun G H v Q e r k => by
  cases r
  exact .inr (.inr ⟨z, rfl, hz, ret1 e (.str _) k⟩)
theorem cutD_nn {xs : List D} {a b : Nat} : cutD xs (some (a : Int)) (some (b : Int)) = (xs.take b).drop a := by
  unfold cutD
  rw [HT.sIx_nat, HT.sIx_nat]
  rw [List.drop_take]
  by_cases h : a ≤ xs.length
  · rw [Nat.min_eq_left h]
    by_cases hb : b ≤ xs.length
    · rw [Nat.min_eq_left hb]
    · rw [Nat.min_eq_right (by omega), List.take_of_length_le (by rw [List.length_drop]; omega), List.take_of_length_le (by rw [List.length_drop]; omega)]
  · rw [Nat.min_eq_right (show xs.length ≤ a by omega), List.drop_eq_nil_of_le (Nat.le_refl _), List.drop_eq_nil_of_le (show xs.length ≤ a by omega)]
    simp
theorem cutD_from {xs : List D} {a : Nat} : cutD xs (some (a : Int)) none = xs.drop a := by
  unfold cutD
  rw [HT.sIx_nat, HT.sIx_none]
  by_cases h : a ≤ xs.length
  · rw [Nat.min_eq_left h, List.take_of_length_le (by rw [List.length_drop]; omega)]
  · rw [List.drop_eq_nil_of_le (show xs.length ≤ a by omega), Nat.min_eq_right (by omega), List.drop_eq_nil_of_le (Nat.le_refl _)]
    simp
theorem cutD_to {xs : List D} {b : Nat} : cutD xs none (some (b : Int)) = xs.take b := by
  unfold cutD
  rw [HT.sIx_nat, HT.sIx_none]
  by_cases hb : b ≤ xs.length
  · rw [Nat.min_eq_left hb]; simp
  · rw [Nat.min_eq_right (by omega), List.take_of_length_le (show xs.length ≤ b by omega)]; simp
theorem cutD_all {xs : List D} : cutD xs none none = xs := by
  unfold cutD
  rw [HT.sIx_none, HT.sIx_none]
  simp
/-! in -/
def D.inB (x : V) (vs : List V) : Bool := inV x vs
theorem od_inT {neg : Bool} {x : D} {v : V} {ds : List D} {vs : List V} (hx : x.v = some v) (hv : ds.map D.v = vs.map some) (fx : flatV v = true) (fs : vs.all flatV = true) : OpD K (rInG K neg) x (.tup ds) (· = .bl (if neg then !inV v vs else inV v vs)) := fun G H v' w Q e r1 r2 k => by
  obtain ⟨a, as, rfl, ha, hr⟩ := r2.tup_inv
  have ev : v' = v := r1.sc hx
  have eq : ∀ {as : List V} {ds : List D} {vs : List V}, RpL K G as ds → ds.map D.v = vs.map some → as = vs := by
    intro as
    induction as with
    | nil =>
      intro ds vs r h
      cases r
      cases vs with
      | nil => rfl
      | cons _ _ => cases h
    | cons a as ih =>
      intro ds vs r h
      cases r with
      | cons ra rr =>
        cases vs with
        | nil => cases h
        | cons u us =>
          rw [List.map_cons, List.map_cons] at h
          injection h with h1 h2
          rw [ra.sc h1, ih rr h2]
  have e2 := eq hr hv
  subst e2
  subst ev
  exact .inl ⟨a, as, rfl, .inr (st_ex e ha), fx, fs, ret1 e (.bl _) k⟩
def D.isN : D → Bool
  | .non => true
  | _ => false
theorem od_isN {x : D} : OpD K rIsN x .non (· = .bl x.isN) := fun G H v w Q e r1 r2 k => by
  cases r2
  refine ⟨rfl, ?_⟩
  have : decide (v = .non) = x.isN := by cases r1 <;> simp [D.isN]
  rw [this]
  exact ret1 e (.bl _) k
theorem od_notN {x : D} : OpD K rNotN x .non (· = .bl (!x.isN)) := fun G H v w Q e r1 r2 k => by
  cases r2
  refine ⟨rfl, ?_⟩
  have : (!decide (v = .non)) = (!x.isN) := by cases r1 <;> simp [D.isN]
  rw [this]
  exact ret1 e (.bl _) k
/-! calls of built-ins -/
theorem cd_lenL {ds : List D} : CbD K (rLenC K) [.lst ds] (· = .int ds.length) := fun G H vs Q e r k => by
  cases r with
  | cons ra rr =>
    cases rr
    obtain ⟨a, as, rfl, ha, hr⟩ := ra.lst_inv
    exact ⟨_, as.length, rfl, .inl ⟨as, .inl (.inl (e.l ha)), rfl⟩, by rw [hr.length]; exact ret1 e (.int _) k⟩
theorem cd_lenT {ds : List D} : CbD K (rLenC K) [.tup ds] (· = .int ds.length) := fun G H vs Q e r k => by
  cases r with
  | cons ra rr =>
    cases rr
    obtain ⟨a, as, rfl, ha, hr⟩ := ra.tup_inv
    exact ⟨_, as.length, rfl, .inr ⟨as, st_ex e ha, rfl⟩, by rw [hr.length]; exact ret1 e (.int _) k⟩
theorem cd_lenS {z : Str} (hz : z.length ≤ sizeLine) : CbD K (rLenC K) [.str z] (· = .int z.length) := fun G H vs Q e r k => by
  cases r with
  | cons ra rr =>
    cases rr
    cases ra
    exact ⟨_, z.length, rfl, ⟨hz, rfl⟩, ret1 e (.int _) k⟩
theorem cd_intI {i : Int} : CbD K rInt1 [.int i] (· = .int i) := fun G H vs Q e r k => by
  cases r with
  | cons ra rr =>
    cases rr
    cases ra
    exact .inl ⟨i, rfl, ret1 e (.int _) k⟩
theorem cd_intB {b : Bool} : CbD K rInt1 [.bl b] (· = .int (if b then 1 else 0)) := fun G H vs Q e r k => by
  cases r with
  | cons ra rr =>
    cases rr
    cases ra
    exact .inr ⟨b, rfl, ret1 e (.int _) k⟩
theorem cd_abs {i : Int} : CbD K rAbs [.int i] (· = .int (if i < 0 then -i else i)) := fun G H vs Q e r k => by
  cases r with
  | cons ra rr =>
    cases rr
    cases ra
    exact ⟨i, rfl, ret1 e (.int _) k⟩
theorem cd_min {i j : Int} : CbD K rMin2 [.int i, .int j] (· = .int (if j < i then j else i)) := fun G H vs Q e r k => by
  cases r with
  | cons ra rr =>
    cases rr with
    | cons rb rr =>
      cases rr
      cases ra
      cases rb
      exact ⟨i, j, rfl, ret1 e (.int _) k⟩
theorem cd_max {i j : Int} : CbD K rMax2 [.int i, .int j] (· = .int (if j > i then j else i)) := fun G H vs Q e r k => by
  cases r with
  | cons ra rr =>
    cases rr with
    | cons rb rr =>
      cases rr
      cases ra
      cases rb
      exact ⟨i, j, rfl, ret1 e (.int _) k⟩
theorem cd_tupL {ds : List D} : CbD K (rTupO K) [.lst ds] (· = .tup ds) := fun G H vs Q e r k => by
  cases r with
  | cons ra rr =>
    cases rr
    obtain ⟨a, as, rfl, ha, hr⟩ := ra.lst_inv
    refine ⟨a, as, rfl, .inl ⟨.inl (.inl (e.l ha)), fun p hp => ?_⟩⟩
    have g := Gr.new (o := .tup as) e hp
    exact k _ _ _ _ g (.tup (.inl (.inl upd_same)) (hr.ex g.ex)) rfl
theorem cd_tupT {ds : List D} : CbD K (rTupO K) [.tup ds] (· = .tup ds) := fun G H vs Q e r k => by
  cases r with
  | cons ra rr =>
    cases rr
    obtain ⟨a, as, rfl, ha, hr⟩ := ra.tup_inv
    exact ⟨a, as, rfl, .inr ⟨st_ex e ha, ret1 e (.tup ha hr) k⟩⟩
theorem cd_lstL {ds : List D} : CbD K (rLstO K) [.lst ds] (· = .lst ds) := fun G H vs Q e r k => by
  cases r with
  | cons ra rr =>
    cases rr
    obtain ⟨a, as, rfl, ha, hr⟩ := ra.lst_inv
    refine ⟨a, as, rfl, .inl (.inl (.inl (e.l ha))), fun p hp => ?_⟩
    have g := Gr.new (o := .lst as) e hp
    exact k _ _ _ _ g (.lst upd_same (hr.ex g.ex)) rfl
theorem cd_lstT {ds : List D} : CbD K (rLstO K) [.tup ds] (· = .lst ds) := fun G H vs Q e r k => by
  cases r with
  | cons ra rr =>
    cases rr
    obtain ⟨a, as, rfl, ha, hr⟩ := ra.tup_inv
    refine ⟨a, as, rfl, .inr (st_ex e ha), fun p hp => ?_⟩
    have g := Gr.new (o := .lst as) e hp
    exact k _ _ _ _ g (.lst upd_same (hr.ex g.ex)) rfl
/-- xs.insert(i, e), xs a list of one's own -/
theorem xs_ins {W : WX} {Δ : En} {post : Out → Prop} {ta tb : TE} {i : Nat} {ds : List D} {j : Int} {d : D} (hi : Δ[i]? = some (Sl.own ds)) (hl : ds.length < sizeLine) (h1 : Ev K (WE W) ta Δ (· = .int j) fun _ => False) (h2 : Ev K (WE W) tb Δ (· = d) fun _ => False)
    (hj : 0 ≤ j) (hj2 : j < 2 ^ 63) (k : post (.nx (Δ.set i (.own (ds.take j.toNat ++ [d] ++ ds.drop j.toNat))))) : Xs K W (tDrop (tBM K "list" rIns (tVar i) (tCons ta (tCons tb tNil)))) Δ post := fun q G0 H0 G H σ T s k1 k2 k3 k4 k5 => by
  obtain ⟨p, vs, a1, a2, a3, a4, a5, a6⟩ := s.rs.own i ds hi
  refine ⟨_, a1, .inl ⟨rfl, vs, .inl (.inl a2)⟩, ?_⟩
  refine h1 q G0 H0 G H σ _ s (fun v d1 G1 H1 g1 r1 p1 => ?_) fun _ _ _ _ z => z.elim
  refine h2 q G0 H0 G1 H1 σ _ (s.go g1) (fun w d2 G2 H2 g2 r2 p2 => ?_) fun _ _ _ _ z => z.elim
  subst p1; subst p2
  cases r1
  have g := s.tr g1 g2
  have s2 := s.go g
  refine ⟨p, vs, j, w, rfl, rfl, g.kl a6 a2, by rw [a3.length]; exact hl, hj, hj2, ?_⟩
  have r := a3.ex g.ex
  exact k1 σ _ G2 _ g.ex (s2.change hi a1 (((r.take _).append (.cons r2 .nil)).append (r.drop _))) k
end
section
variable {K : PySem.W.Frag}
theorem od_repT {xs : List D} {n : Int} (h0 : xs ≠ []) (h1 : 0 ≤ n) (h2 : n ≤ 1000) (h3 : xs.length ≤ 1000) : OpD K (rMulG K) (.tup xs) (.int n) (· = .tup (List.replicate n.toNat xs).flatten) := fun G H v w Q e r1 r2 k => by
  cases r2
  obtain ⟨a, as, rfl, ha, hr⟩ := r1.tup_inv
  have la := hr.length
  have h0' : as ≠ [] := fun z => by
    rw [z] at la
    exact h0 (List.eq_nil_of_length_eq_zero la.symm)
  by_cases c0 : n = 0
  · subst c0
    refine .inr (.inr (.inr (.inr (.inr ⟨a, as, rfl, rfl, st_ex e ha, h0', fun p hp => ?_⟩))))
    have g := Gr.new (o := .tup []) e hp
    exact k _ _ _ _ g (.tup (.inl (.inl upd_same)) .nil) rfl
  · by_cases c1 : n = 1
    · subst c1
      refine .inr (.inr (.inr (.inr (.inl ⟨a, as, rfl, rfl, st_ex e ha, ?_⟩))))
      exact ret1 e (.tup ha (by simpa using hr)) (by simpa using k)
    · refine .inr (.inr (.inr (.inl ⟨a, n, as, rfl, rfl, st_ex e ha, h0', by omega, h2, by omega, fun p hp => ?_⟩)))
      have g := Gr.new (o := .tup (List.replicate n.toNat as).flatten) e hp
      have rr : ∀ m : Nat, RpL K G (List.replicate m as).flatten (List.replicate m xs).flatten := fun m => by
        induction m with
        | zero => exact .nil
        | succ m ih =>
          rw [List.replicate_succ, List.replicate_succ, List.flatten_cons, List.flatten_cons]
          exact hr.append ih
      exact k _ _ _ _ g (.tup (.inl (.inl upd_same)) ((rr _).ex g.ex)) rfl
theorem od_neOS {C : Addr} {fs : List (Str × D)} {z : Str} (pe : PlainEq K C) : OpD K (rNeG K) (.obj C fs) (.str z) (· = .bl true) := fun G H v w Q e r1 r2 k => by
  cases r2
  obtain ⟨a, dx, vs, rfl, hi, rf⟩ := r1.obj_inv
  exact .inr (.inr ⟨a, C, dx, vs, z, rfl, rfl, e.i hi, pe, ret1 e (.bl _) k⟩)
theorem od_eqOS {C : Addr} {fs : List (Str × D)} {z : Str} (pe : PlainEq K C) : OpD K (rEqG K) (.obj C fs) (.str z) (· = .bl false) := fun G H v w Q e r1 r2 k => by
  cases r2
  obtain ⟨a, dx, vs, rfl, hi, rf⟩ := r1.obj_inv
  exact .inr (.inr ⟨a, C, dx, vs, z, rfl, rfl, e.i hi, pe, ret1 e (.bl _) k⟩)
end
end Ts


namespace Ts
variable [Tt]
open PySem PySem.Spec PyProof.Rows L2

/-! ### a def that may be called by its name -/
structure Cal (P : Program) (w : World) (K : PySem.W.Frag) (mg : Str → Option Value) (base : Heap) (k : Nat) (x : Str) (sp : Sp) : Prop where
  ex : ∃ (f : Addr) (fd : FuncData) (ps : List Str), FnOk P w K mg base (L2.CX P w) k f fd ps sp ∧ mg x = some (.ref f) ∧ PySem.W.keepIn K (.ref f) = true ∧ Binds K fd ps []
section
variable {X : Cx} {k j : Nat} {x : Str} {sp : Sp} {E : L2.St → XK} {p pos : Pos} {e : Expr} {es : List Expr} {t : TA}
theorem pe_cal (c : Cal X.prog X.w X.K X.mg X.base k x sp) (hr : Room j X.A) (hk : k ≤ j) (hg : Gl X x) (hx : ∀ σ, PassesAt (L2.CX X.prog X.w) X σ (E σ)) (ha : PA X (e :: es) t)
    (hdb : (x == ("__debug__" : Str)) = false := by decide) (he : starEach (e :: es) X.env = (false, eval e X.env) :: starEach es X.env := by rfl) (hpl : (backTo pos (starEach es X.env)).any (·.1) = false := by rfl) :
    PE X (.Call (.Name x p) (e :: es) [] pos) (tCallS sp E t) := by
  obtain ⟨f, fd, ps, F, hm, kp, b⟩ := c.ex
  exact pe_callS F (hr.mono hk) hg hm kp b hx ha hdb he hpl
theorem passE {X : Cx} {σ : L2.St} : PassesAt (L2.CX X.prog X.w) X σ (E00 σ) := fun pins H s e s' I c => by
  obtain ⟨_, _, _, _, _, _, _, _, _, _, _, _, _, _, _, _, z⟩ := c
/-! constants of the module -/
theorem pe_globI {x : Str} {i : Int} {p : Pos} (hm : ∃ t, X.mg x = some (.int i t)) (hg : Gl X x := by rfl) (hd : (x == ("__debug__" : Str)) = false := by decide) : PE X (.Name x p) (tC (.int i)) := by
  obtain ⟨t, e⟩ := hm
  exact pe_glob hg e ⟨t, rfl⟩ hd
theorem pe_globS {x z : Str} {p : Pos} (hm : ∃ t, X.mg x = some (.str z t)) (hg : Gl X x := by rfl) (hd : (x == ("__debug__" : Str)) = false := by decide) : PE X (.Name x p) (tC (.str z)) := by
  obtain ⟨t, e⟩ := hm
  exact pe_glob hg e ⟨t, rfl⟩ hd
theorem pe_globR {x : Str} {a : Addr} {p : Pos} (hm : X.mg x = some (.ref a)) (hg : Gl X x := by rfl) (hd : (x == ("__debug__" : Str)) = false := by decide) : PE X (.Name x p) (tC (.ref a)) := pe_glob hg hm rfl hd
end

/-! ### x += y, x -= y, whatever the values -/
def rIAddG : TIp := fun x y H Q => ipI (fun i j => i + j) x y H Q ∨ ∃ i j : Str, x = .str i ∧ y = .str j ∧ i.length + j.length ≤ sizeLine ∧ Q (.str (i ++ j)) H
def rISubG : TIp := ipI fun i j => i - j
theorem ip_adds {X : Cx} : PIp X .Add (fun x y H Q => ∃ i j : Str, x = .str i ∧ y = .str j ∧ i.length + j.length ≤ sizeLine ∧ Q (.str (i ++ j)) H) := by
  intro pins s σ H x y v u Q I r1 r2 h
  obtain ⟨i, j, e1, e2, hz, q⟩ := h
  subst e1; subst e2
  obtain ⟨t, rfl⟩ := r1
  obtain ⟨t', rfl⟩ := r2
  exact PyProof.Rows.iadd_str (fun t' tk => ⟨.str _, H, I.tok _, ⟨_, rfl⟩, q⟩) hz
theorem ip_addG {X : Cx} : PIp X .Add rIAddG := PIp.or ip_add ip_adds
theorem ip_subG {X : Cx} : PIp X .Sub rISubG := ip_sub
section
variable {K : PySem.W.Frag}
theorem ip_i {f : Int → Int → Int} {i j : Int} : OpD K (ipI f) (.int i) (.int j) (· = .int (f i j)) := fun G H v w Q e r1 r2 k => by
  cases r1; cases r2
  exact ⟨i, j, rfl, rfl, ret1 e (.int _) k⟩
theorem iad {i j : Int} : OpD K rIAddG (.int i) (.int j) (· = .int (i + j)) := od_inl ip_i
theorem isu {i j : Int} : OpD K rISubG (.int i) (.int j) (· = .int (i - j)) := ip_i
theorem iads {i j : Str} (hz : i.length + j.length ≤ sizeLine) : OpD K rIAddG (.str i) (.str j) (· = .str (i ++ j)) := fun G H v w Q e r1 r2 k => by
  cases r1; cases r2
  exact .inr ⟨i, j, rfl, rfl, hz, ret1 e (.str _) k⟩
end

/-! ### len(range(a, b, c)) -/
def rLenRng3 : List V → Hp → VK → Prop := fun vs H Q => ∃ (i j c : Int) (n : Nat), vs = [.int i, .int j, .int c] ∧ RgC i j c n ∧ (n : Int) < 2 ^ 62 ∧ Q (.int n) H
theorem pe_lenRng3 {X : Cx} {a b c : Expr} {ta : TA} {p p2 pos pos2 : Pos} (hg : Gl X "len") (hm : X.mg "len" = none) (hg2 : Gl X "range") (hm2 : X.mg "range" = none) (ha : PA X [a, b, c] ta)
    (hs : starEach [a, b, c] X.env = (false, eval a X.env) :: starEach [b, c] X.env := by rfl) (hpl : (backTo pos2 (starEach [b, c] X.env)).any (·.1) = false := by rfl)
    (na : starEach [Expr.Call (.Name "range" p2) [a, b, c] [] pos2] X.env = (false, eval (.Call (.Name "range" p2) [a, b, c] [] pos2) X.env) :: starEach [] X.env := by rfl) :
    PE X (.Call (.Name "len" p) [.Call (.Name "range" p2) [a, b, c] [] pos2] [] pos) (tCB rLenRng3 ta) := by
  refine ⟨fun pins s σ H Q I h => ?_⟩
  refine Call_ (ld_blt I hg hm boot_len ?_)
  refine PyProof.Rows.callWith_builtin1 (PyProof.Rows.args_cons ?_ rfl) rfl rfl
  refine Call_ (ld_blt I hg2 hm2 boot_range (PyProof.Rows.callWith_type1 (thn (ha.run pos2 pins s σ H _ I h) fun us s1 ⟨vs, H1, I1, r1, q1⟩ => ?_) hs hpl))
  obtain ⟨i, j, k, n, e, ⟨c0, c1, c2, c3⟩, hn, q⟩ := q1
  subst e
  cases r1 with
  | cons r rr =>
    cases rr with
    | cons r' rr =>
      cases rr with
      | cons r'' rr =>
        cases rr
        obtain ⟨t, rfl⟩ := r
        obtain ⟨t', rfl⟩ := r'
        obtain ⟨t'', rfl⟩ := r''
        refine call_range_3 c0 ?_ (.inl (PyProof.noPylong_small c1))
        refine PyProof.Rows.args_nil ?_
        have I2 : Inv X pins σ H1 { s1 with heap := s1.heap.push { cls := .type "range", data := .fields #[.int i t, .int j t', .int k t''] } } := I1.kept (t' := s1.toks) fun b o e => Heap.get?_push_of_some _ e
        exact call_len_range (IsRange.new ..) c3 (by omega) ⟨.int n, H1, I2.tok _, ⟨_, rfl⟩, q⟩
theorem cd_lenRng3 {K : PySem.W.Frag} {i j c : Int} {n : Nat} (h : RgC i j c n) (hn : (n : Int) < 2 ^ 62) : CbD K rLenRng3 [.int i, .int j, .int c] (· = .int n) := fun G H vs Q e r k => by
  cases r with
  | cons ra rr =>
    cases rr with
    | cons rb rr =>
      cases rr with
      | cons rc rr =>
        cases rr
        cases ra
        cases rb
        cases rc
        exact ⟨i, j, c, n, rfl, h, hn, ret1 e (.int _) k⟩

/-! ### zip of three, each a list or a tuple -/
def ItAt (b : Bool) (h : Heap) (it a : Addr) (i : Nat) : Prop := cond b (h.IsTupleIter it a i) (h.IsListIter it a i)
def IsSq (b : Bool) (h : Heap) (a : Addr) (its : Array Value) : Prop := cond b (h.IsTuple a its) (h.IsList a its)
def SqB (K : PySem.W.Frag) (b : Bool) (H : Hp) (a : Addr) (xs : List V) : Prop := cond b (SqT K H a xs) (SqL K H a xs)
theorem ItAt.at_ {b : Bool} {h h' : Heap} {it a : Addr} {i : Nat} (x : ItAt b h it a i) (k : ∀ o, h.get? it = some o → h'.get? it = some o) : ItAt b h' it a i := by
  cases b with
  | true => exact Heap.IsTupleIter.at (show h.IsTupleIter it a i from x) k
  | false => exact Heap.IsListIter.at (show h.IsListIter it a i from x) k
theorem ItAt.obj {b : Bool} {h : Heap} {it a : Addr} {i : Nat} (x : ItAt b h it a i) : ∃ o, h.get? it = some o ∧ ∀ v, o.data ≠ .cell v := by
  cases b with
  | true =>
    obtain ⟨o1, e1, _, d1⟩ := (show h.IsTupleIter it a i from x)
    exact ⟨o1, e1, fun v q => by rw [d1] at q; cases q⟩
  | false =>
    obtain ⟨o1, e1, _, d1⟩ := (show h.IsListIter it a i from x)
    exact ⟨o1, e1, fun v q => by rw [d1] at q; cases q⟩
theorem draws_b {P : Program} {w : World} {A : Around} (hh : A.handled = none) (b : Bool) (it a : Addr) (hne : a ≠ it) (items : Array Value) :
    Draws P w A it [it, a] items.size (fun i v => items[i]? = some v) (fun i h => ItAt b h it a i ∧ IsSq b h a items) := by
  cases b with
  | true => exact Draws.tuple hh it a hne items
  | false => exact Draws.list hh it a hne items
def itObj (b : Bool) (a : Addr) : Obj := cond b { cls := .type "tuple_iterator", data := .fields #[.ref a, .int 0 0] } { cls := .type "list_iterator", data := .fields #[.ref a, .int 0 0] }
theorem begins_b (b : Bool) (a : Addr) (items : Array Value) : Begins (.ref a) (itObj b a) fun h => IsSq b h a items := by
  cases b with
  | true => exact begins_tuple a items
  | false => exact begins_list a items
theorem ItAt.new {b : Bool} {h : Heap} {it a : Addr} (e : h.get? it = some (itObj b a)) : ItAt b h it a 0 := by
  cases b with
  | true => exact ⟨_, e, rfl, rfl⟩
  | false => exact ⟨_, e, rfl, rfl⟩
section
variable {X : Cx} {pins : List (Addr × Obj)} {σ : L2.St} {H : Hp} {s : Shared} {a : Addr} {xs ys : List V}
theorem inv_sq (I : Inv X pins σ H s) {b : Bool} (h : SqB X.K b H a xs) : ∃ its : List Value, Vals xs its ∧ IsSq b s.heap a its.toArray ∧ a < s.heap.objs.size := by
  cases b with
  | true =>
    obtain ⟨its, rv, p, _⟩ := I.tuple (show SqT X.K H a xs from h)
    obtain ⟨o1, ho1, _⟩ := id p
    exact ⟨its, rv, show s.heap.IsTuple a its.toArray from p, Heap.lt_size ho1⟩
  | false =>
    obtain ⟨its, rv, p, _⟩ := I.list (show SqL X.K H a xs from h)
    exact ⟨its, rv, p.isList, p.lt⟩
theorem inv_sqi (I : Inv X pins σ H s) {b : Bool} (h : SqB X.K b H a xs) (h' : SqB X.K b H a ys) : xs = ys := by
  cases b with
  | true => exact I.tuple_inj (show SqT X.K H a xs from h) h'
  | false => exact I.list_inj (show SqL X.K H a xs from h) h'
end
def It3 (K : PySem.W.Frag) (b1 b2 b3 : Bool) (a b c : Addr) : It :=
  ⟨fun i H => ∃ (xs ys zs : List V) (x y z : V), SqB K b1 H a xs ∧ SqB K b2 H b ys ∧ SqB K b3 H c zs ∧ xs[i]? = some x ∧ ys[i]? = some y ∧ zs[i]? = some z,
    fun i H v H' => ∃ T x y z, v = .ref T ∧ H T = none ∧ H' = upd H T (.tup [x, y, z]) ∧ (∀ xs, SqB K b1 H a xs → xs[i]? = some x) ∧ (∀ ys, SqB K b2 H b ys → ys[i]? = some y) ∧ ∀ zs, SqB K b3 H c zs → zs[i]? = some z,
    fun i H => ∃ xs ys zs : List V, SqB K b1 H a xs ∧ SqB K b2 H b ys ∧ SqB K b3 H c zs ∧ i ≤ xs.length ∧ i ≤ ys.length ∧ i ≤ zs.length ∧ (i = xs.length ∨ i = ys.length ∨ i = zs.length)⟩
theorem turn_zip3 {P : Program} {w : World} {K : PySem.W.Frag} {elts : List Expr} {kk : Nat} {tpos : Pos} {b1 b2 b3 : Bool} {a b c : Addr} {N : Nat} (ha : a < N) (hb : b < N) (hc' : c < N) :
    Turn P w K (.Tuple elts kk tpos) (It3 K b1 b2 b3 a b c) [N + 5, N + 3, N + 4, N, N + 1, N + 2] (N + 5) (fun i h => IsZip h (N + 5) (N + 3) (N + 4) .none ∧ IsTupOf3 h (N + 3) (.ref N) (.ref (N + 1)) (.ref (N + 2)) ∧ (∃ x y z, IsTupOf3 h (N + 4) x y z) ∧ ItAt b1 h N a i ∧ ItAt b2 h (N + 1) b i ∧ ItAt b3 h (N + 2) c i) := by
  have S := zip_sep3 (N := N) (fp1 := [a]) (fp2 := [b]) (fp3 := [c]) (by simpa using ha) (by simpa using hb) (by simpa using hc')
  refine ⟨by simp, fun i h st d hd => ?_, fun i h h' st k => ?_, ?_, ?_, fun A i s Q E st h => wpAny_pyIter_zip st.1 h⟩
  · obtain ⟨hz, hTI, ⟨x, y, z, hTO⟩, h1, h2, h3⟩ := st
    have e' : d = N + 5 ∨ d = N + 3 ∨ d = N + 4 ∨ d = N ∨ d = N + 1 ∨ d = N + 2 := by simpa using hd
    rcases e' with q | q | q | q | q | q
    · rw [q]; exact ⟨_, hz, fun v q => nomatch q⟩
    · rw [q]; exact ⟨_, hTI, fun v q => nomatch q⟩
    · rw [q]; exact ⟨_, hTO, fun v q => nomatch q⟩
    · rw [q]; exact h1.obj
    · rw [q]; exact h2.obj
    · rw [q]; exact h3.obj
  · obtain ⟨hz, hTI, ⟨x, y, z, hTO⟩, h1, h2, h3⟩ := st
    exact ⟨k _ (by simp) _ hz, k _ (by simp) _ hTI, ⟨x, y, z, k _ (by simp) _ hTO⟩, h1.at_ fun o q => k _ (by simp) o q, h2.at_ fun o q => k _ (by simp) o q, h3.at_ fun o q => k _ (by simp) o q⟩
  · intro X hP hw hK hc i pins s σ H E I hf st hg
    subst hP hw hK
    obtain ⟨hz, hTI, ⟨x0, y0, z0, hTO⟩, h1, h2, h3⟩ := st
    obtain ⟨xs, ys, zs, x, y, z, hqx, hqy, hqz, hx, hy, hz'⟩ := hg
    obtain ⟨its, rv, p, _⟩ := inv_sq I hqx
    obtain ⟨its2, rv2, p2, _⟩ := inv_sq I hqy
    obtain ⟨its3, rv3, p3, _⟩ := inv_sq I hqz
    obtain ⟨u, hu, ru⟩ := rv.get hx
    obtain ⟨u2, hu2, ru2⟩ := rv2.get hy
    obtain ⟨u3, hu3, ru3⟩ := rv3.get hz'
    have hh : X.A.in1.handled = none := I.ok.hd hc
    have D1 := draws_b (P := X.prog) (w := X.w) hh b1 N a (Nat.ne_of_lt ha) its.toArray
    have D2 := draws_b (P := X.prog) (w := X.w) hh b2 (N + 1) b (Nat.ne_of_lt (Nat.lt_succ_of_lt hb)) its2.toArray
    have D3 := draws_b (P := X.prog) (w := X.w) hh b3 (N + 2) c (Nat.ne_of_lt (Nat.lt_succ_of_lt (Nat.lt_succ_of_lt hc'))) its3.toArray
    have hzl : N + 5 < s.heap.objs.size := Heap.lt_size hz
    refine wpAny_pyNext_zipD3_item S D1 D2 D3 hz hTI hTO ⟨h1, p⟩ ⟨h2, p2⟩ ⟨h3, p3⟩ ?_ ?_ ?_ fun x1 x2 x3 h' tk y1 y2 y3 hz1 hTO1 s1 s2 s3 hT hsz hk => ?_
    · simpa using (List.getElem?_eq_some_iff.mp hu).1
    · simpa using (List.getElem?_eq_some_iff.mp hu2).1
    · simpa using (List.getElem?_eq_some_iff.mp hu3).1
    have ex1 : x1 = u := by
      have e : its[i]? = some x1 := by simpa using y1
      rw [hu] at e
      exact (Option.some.inj e).symm
    have ex2 : x2 = u2 := by
      have e : its2[i]? = some x2 := by simpa using y2
      rw [hu2] at e
      exact (Option.some.inj e).symm
    have ex3 : x3 = u3 := by
      have e : its3[i]? = some x3 := by simpa using y3
      rw [hu3] at e
      exact (Option.some.inj e).symm
    subst ex1 ex2 ex3
    refine ⟨_, rfl, wpAny_letOwnedTupleGo_zip (s := { s with heap := h', toks := tk }) hz1 fun h'' z'' sb => ?_⟩
    have hT2 : h''.get? s.heap.objs.size = some { cls := .type "tuple", data := .seq #[x1, x2, x3] } := (sb.2 _ (Nat.ne_of_gt hzl)).trans hT
    have new : ObjOk X.prog X.w (upd H s.heap.objs.size (.tup [x, y, z])) h'' s.heap.objs.size (.tup [x, y, z]) :=
      ⟨by show 3 ≤ sizeLine; exact szl, [x1, x2, x3], .cons ru (.cons ru2 (.cons ru3 .nil)), ⟨_, hT2, rfl, _, rfl⟩⟩
    have I1 : Inv X pins σ (upd H s.heap.objs.size (.tup [x, y, z])) { s with heap := h'', toks := tk } :=
      I.turnedNew (t' := tk) (ch := [N + 5, N + 3, N + 4, N, N + 1, N + 2]) (fun c o hb q => (sb.2 c (fun q' => hb (by simp [q']))).trans (hk c o (fun q' => hb (by simp [q'])) (fun q' => hb (by simp [q'])) (fun q' => hb (by simp [q'])) (fun q' => hb (by simp [q'])) (fun q' => hb (by simp [q'])) q)) hf (Nat.le_refl _) new
    have ne : ∀ {d : Addr}, d ≠ N + 5 → ∀ o, h'.get? d = some o → h''.get? d = some o := fun hd o q => (sb.2 _ hd).trans q
    refine ⟨.ref s.heap.objs.size, _, I1, rfl, ⟨_, x, y, z, rfl, I.hok.fresh (Nat.le_refl _), rfl, fun l hl => by rw [inv_sqi I hl hqx]; exact hx, fun l hl => by rw [inv_sqi I hl hqy]; exact hy, fun l hl => by rw [inv_sqi I hl hqz]; exact hz'⟩, ⟨z'', ?_, ⟨x1, x2, x3, ?_⟩, ?_, ?_, ?_⟩, fun c hcm => ?_⟩
    · exact ne S.TIz _ (hk _ _ S.TIz S.TITO S.TIi1 S.TIi2 S.TIi3 hTI)
    · exact ne S.TOz _ hTO1
    · exact s1.1.at_ (ne S.zi1.symm)
    · exact s2.1.at_ (ne S.zi2.symm)
    · exact s3.1.at_ (ne S.zi3.symm)
    · have hlt : c < s.heap.objs.size := by
        have e' : c = N + 5 ∨ c = N + 3 ∨ c = N + 4 ∨ c = N ∨ c = N + 1 ∨ c = N + 2 := by simpa using hcm
        have hzl' : (N + 5 : Nat) < s.heap.objs.size := hzl
        rcases e' with q | q | q | q | q | q <;> rw [q] <;> first | exact hzl' | (show (_ : Nat) < s.heap.objs.size; omega)
      rw [upd_ne (Nat.ne_of_lt hlt)]
      exact (hf c hcm).1
  · intro X hP hw hK hc i pins s σ H E I hf st hg
    subst hP hw hK
    obtain ⟨hz, hTI, ⟨x0, y0, z0, hTO⟩, h1, h2, h3⟩ := st
    obtain ⟨xs, ys, zs, hqx, hqy, hqz, l1, l2, l3, hend⟩ := hg
    obtain ⟨its, rv, p, _⟩ := inv_sq I hqx
    obtain ⟨its2, rv2, p2, _⟩ := inv_sq I hqy
    obtain ⟨its3, rv3, p3, _⟩ := inv_sq I hqz
    have hh : X.A.in1.handled = none := I.ok.hd hc
    have D1 := draws_b (P := X.prog) (w := X.w) hh b1 N a (Nat.ne_of_lt ha) its.toArray
    have D2 := draws_b (P := X.prog) (w := X.w) hh b2 (N + 1) b (Nat.ne_of_lt (Nat.lt_succ_of_lt hb)) its2.toArray
    have D3 := draws_b (P := X.prog) (w := X.w) hh b3 (N + 2) c (Nat.ne_of_lt (Nat.lt_succ_of_lt (Nat.lt_succ_of_lt hc'))) its3.toArray
    have e1 := rv.length
    have e2 := rv2.length
    have e3 := rv3.length
    refine wpAny_pyNext_zipD3_end S D1 D2 D3 hz hTI hTO ⟨h1, p⟩ ⟨h2, p2⟩ ⟨h3, p3⟩ ?_ ?_ ?_ ?_ fun h' tk hk => ⟨rfl, I.turnedL (t' := tk) (ch := [N + 5, N + 3, N + 4, N, N + 1, N + 2]) (fun c o hb q =>
      hk c o (fun q' => hb (by simp [q'])) (fun q' => hb (by simp [q'])) (fun q' => hb (by simp [q'])) (fun q' => hb (by simp [q'])) (fun q' => hb (by simp [q'])) q) hf⟩
    · simp only [List.size_toArray]; omega
    · simp only [List.size_toArray]; omega
    · simp only [List.size_toArray]; omega
    · simp only [List.size_toArray]; omega
def iZip3 (K : PySem.W.Frag) (ta : TA) : TI := fun σ H R => ta σ H fun vs H1 => ∃ b1 b2 b3 a b c xs ys zs, vs = [.ref a, .ref b, .ref c] ∧ SqB K b1 H1 a xs ∧ SqB K b2 H1 b ys ∧ SqB K b3 H1 c zs ∧ R (It3 K b1 b2 b3 a b c) H1
theorem pi_zip3 {X : Cx} {e e2 e3 : Expr} {ta : TA} {p pos tpos : Pos} {elts : List Expr} {kk : Nat} (hg : Gl X "zip") (hm : X.mg "zip" = none) (ha : PA X [e, e2, e3] ta)
    (hs : starEach [e, e2, e3] X.env = (false, eval e X.env) :: starEach [e2, e3] X.env := by rfl) (hpl : (backTo pos (starEach [e2, e3] X.env)).any (·.1) = false := by rfl) :
    PI X (.Tuple elts kk tpos) (.Call (.Name "zip" p) [e, e2, e3] [] pos) (iZip3 X.K ta) := by
  refine ⟨fun pins s σ H R I h => ?_⟩
  refine Call_ (ld_blt I hg hm PyProof.Rows.boot_zip (PyProof.Rows.callWith_type1 (thn (ha.run pos pins s σ H _ I h) fun us s1 ⟨vs, H1, I1, r1, q1⟩ => ?_) hs hpl))
  obtain ⟨b1, b2, b3, a, b, c, xs, ys, zs, ex, hqx, hqy, hqz, q⟩ := q1
  subst ex
  cases r1 with
  | cons r rr =>
    cases rr with
    | cons r' rr =>
      cases rr with
      | cons r'' rr =>
        cases rr
        cases r
        cases r'
        cases r''
        obtain ⟨its, rv, p1, la⟩ := inv_sq I1 hqx
        obtain ⟨its2, rv2, p2, lb⟩ := inv_sq I1 hqy
        obtain ⟨its3, rv3, p3, lc⟩ := inv_sq I1 hqz
        refine zip_begins3 (begins_b b1 a its.toArray) (begins_b b2 b its2.toArray) (begins_b b3 c its3.toArray) p1 p2 p3 fun h' hz hTI hTO g1 g2 g3 hsz hk => wpAny_pyIter_zip hz ?_
        have I2 : Inv X pins σ H1 { s1 with heap := h' } := I1.kept (t' := s1.toks) hk
        refine ⟨s1.heap.objs.size + 5, _, _, _, H1, rfl, I2, turn_zip3 la lb lc, ⟨hz, hTI, ⟨_, _, _, hTO⟩, .new g1, .new g2, .new g3⟩, fun d hd => ?_, q⟩
        have hle : s1.heap.objs.size ≤ d := by
          have e' : d = s1.heap.objs.size + 5 ∨ d = s1.heap.objs.size + 3 ∨ d = s1.heap.objs.size + 4 ∨ d = s1.heap.objs.size ∨ d = s1.heap.objs.size + 1 ∨ d = s1.heap.objs.size + 2 := by simpa using hd
          rcases e' with q | q | q | q | q | q <;> rw [q] <;> first | exact Nat.le_refl _ | exact Nat.le_add_right _ _
        exact I1.fpOk hle (I1.hok.fresh hle)
section
variable {K : PySem.W.Frag} {E : L2.St → XK} {Δ : En} {X : Addr → Prop} {G : Hp}
/-- the items of a list or a tuple -/
def D.items : D → Option (List D)
  | .lst xs => some xs
  | .tup xs => some xs
  | _ => none
theorem Rp.sq {v : V} {d : D} {ds : List D} (r : Rp K G v d) (h : d.items = some ds) : ∃ b a xs, v = .ref a ∧ (∀ {H}, Exx G H → SqB K b H a xs) ∧ RpL K G xs ds := by
  cases r with
  | lst h1 h2 => cases h; exact ⟨false, _, _, rfl, fun e => .inl (.inl (e.l h1)), h2⟩
  | tup h1 h2 => cases h; exact ⟨true, _, _, rfl, fun e => st_ex e h1, h2⟩
  | non => cases h
  | bl b => cases h
  | int i => cases h
  | str x => cases h
  | obj _ _ => cases h
def zip3D : List D → List D → List D → List D
  | a :: as, b :: bs, c :: cs => .tup [a, b, c] :: zip3D as bs cs
  | _, _, _ => []
theorem zip3D_len : ∀ as bs cs : List D, (zip3D as bs cs).length = min as.length (min bs.length cs.length)
  | [], _, _ => by simp [zip3D]
  | _ :: _, [], _ => by simp [zip3D]
  | _ :: _, _ :: _, [] => by simp [zip3D]
  | _ :: as, _ :: bs, _ :: cs => by
    simp only [zip3D, List.length_cons]
    rw [zip3D_len as bs cs]
    omega
theorem zip3D_get : ∀ {as bs cs : List D} {i : Nat} {a b c : D}, as[i]? = some a → bs[i]? = some b → cs[i]? = some c → (zip3D as bs cs)[i]? = some (.tup [a, b, c])
  | [], _, _, i, _, _, _, h, _, _ => by simp at h
  | _ :: _, [], _, i, _, _, _, _, h, _ => by simp at h
  | _ :: _, _ :: _, [], i, _, _, _, _, _, h => by simp at h
  | _ :: as, _ :: bs, _ :: cs, 0, _, _, _, h1, h2, h3 => by
    simp at h1 h2 h3
    subst h1 h2 h3
    rfl
  | _ :: as, _ :: bs, _ :: cs, i + 1, _, _, _, h1, h2, h3 => by
    simp only [List.getElem?_cons_succ, zip3D] at h1 h2 h3 ⊢
    exact zip3D_get h1 h2 h3
theorem zip3D_of {as bs cs : List D} {i : Nat} {e : D} (h : (zip3D as bs cs)[i]? = some e) : ∃ a b c, as[i]? = some a ∧ bs[i]? = some b ∧ cs[i]? = some c ∧ e = .tup [a, b, c] := by
  have h1 := (List.getElem?_eq_some_iff.mp h).1
  rw [zip3D_len] at h1
  have ha : as[i]? = some as[i] := List.getElem?_eq_getElem (by omega)
  have hb : bs[i]? = some bs[i] := List.getElem?_eq_getElem (by omega)
  have hc : cs[i]? = some cs[i] := List.getElem?_eq_getElem (by omega)
  refine ⟨_, _, _, ha, hb, hc, ?_⟩
  rw [zip3D_get ha hb hc] at h
  exact (Option.some.inj h).symm
theorem ew_zip3 {ta : TA} {da db dc : D} {as bs cs : List D} (h : Ea K E ta Δ (· = [da, db, dc]) X) (ha : da.items = some as) (hb : db.items = some bs) (hc : dc.items = some cs) : Ew K E (iZip3 K ta) Δ (· = zip3D as bs cs) X := fun q G0 H0 G H σ Rj s k kx =>
  h q G0 H0 G H σ _ s (fun vs ds G1 H1 g1 r1 p1 => by
    subst p1
    cases r1 with
    | cons ra rr =>
      cases rr with
      | cons rb rr =>
        cases rr with
        | cons rc rr =>
          cases rr
          obtain ⟨b1, a, xs, rfl, qa, la⟩ := ra.sq ha
          obtain ⟨b2, b, ys, rfl, qb, lb⟩ := rb.sq hb
          obtain ⟨b3, c, zs, rfl, qc, lc⟩ := rc.sq hc
          refine ⟨b1, b2, b3, a, b, c, xs, ys, zs, rfl, qa g1.sub, qb g1.sub, qc g1.sub, k (It3 K b1 b2 b3 a b c) (zip3D as bs cs) G1 H1 g1 (fun G3 H3 e2 e3 => ?_) rfl⟩
          have q1 := qa (e2.trans e3)
          have q2 := qb (e2.trans e3)
          have q3 := qc (e2.trans e3)
          have l1 := la.length
          have l2 := lb.length
          have l3 := lc.length
          rw [zip3D_len]
          refine ⟨fun i hi => ⟨⟨xs, ys, zs, xs[i]'(by omega), ys[i]'(by omega), zs[i]'(by omega), q1, q2, q3, by simp [show i < xs.length by omega], by simp [show i < ys.length by omega], by simp [show i < zs.length by omega]⟩, fun x H4 y => ?_⟩, ⟨xs, ys, zs, q1, q2, q3, by omega, by omega, by omega, by omega⟩⟩
          obtain ⟨T, z1, z2, z3, rfl, hT, rfl, y1, y2, y3⟩ := y
          obtain ⟨d1, hd1, rd1⟩ := la.getV (y1 xs q1)
          obtain ⟨d2, hd2, rd2⟩ := lb.getV (y2 ys q2)
          obtain ⟨d3, hd3, rd3⟩ := lc.getV (y3 zs q3)
          have g := Gr.new (o := .tup [z1, z2, z3]) e3 hT
          have e' := e2.trans g.ex
          exact ⟨_, _, g, zip3D_get hd1 hd2 hd3, .tup (.inl (.inl upd_same)) (.cons (rd1.ex e') (.cons (rd2.ex e') (.cons (rd3.ex e') .nil)))⟩) kx

/-! ### chains, reversals -/
theorem ev_chain {r r' : R2} {ta tb tc : TE} {x y z : D} {b : Bool} {R : D → Prop} (ha : Ev K E ta Δ (· = x) X) (hb : Ev K E tb Δ (· = y) X) (ho : OpD K r x y (· = .bl b)) (hc : b = true → Ev K E tc Δ (· = z) X) (ho' : b = true → OpD K r' y z R) (hf : b = false → R (.bl false)) :
    Ev K E (tChain r r' ta tb tc) Δ R X := fun q G0 H0 G H σ Q s k kx =>
  ha q G0 H0 G H σ _ s (fun v d1 G1 H1 g1 r1 p1 => hb q G0 H0 G1 H1 σ _ (s.go g1) (fun u d2 G2 H2 g2 r2 p2 => by
    subst p1; subst p2
    refine ho G2 H2 v u _ g2.sub (r1.ex g2.ex) r2 fun w d3 G3 H3 g3 r3 p3 => ?_
    subst p3
    cases r3
    have g123 := s.tr (s.tr g1 g2) g3.any
    refine ⟨b, rfl, ?_⟩
    cases b with
    | false => exact iteF (k _ _ G3 H3 g123 (.bl false) (hf rfl))
    | true =>
      refine iteT (hc rfl q G0 H0 G3 H3 σ _ (s.go g123) (fun w2 d4 G4 H4 g4 r4 p4 => ?_) fun C G' H' g x => kx C G' H' (s.tr g123 g) x)
      subst p4
      exact ho' rfl G4 H4 u w2 Q g4.sub (r2.ex (g3.ex.trans g4.ex)) r4 fun u5 d5 G5 H5 g5 r5 p5 => k u5 d5 G5 H5 (s.tr (s.tr g123 g4) g5.any) r5 p5) fun C G' H' g x => kx C G' H' (s.tr g1 g) x) kx
theorem ev1_revL {te : TE} {ds : List D} (h : Ev K E te Δ (· = .lst ds) X) : Ev K E (tRevL K te) Δ (· = .lst ds.reverse) X := fun q G0 H0 G H σ Q s k kx =>
  h q G0 H0 G H σ _ s (fun v d G1 H1 g1 r1 p1 => by
    subst p1
    obtain ⟨a, xs, rfl, ha, hr⟩ := r1.lst_inv
    refine ⟨a, xs, rfl, .inl (.inl (g1.sub.l ha)), fun p hp => ?_⟩
    have g := Gr.new (o := .lst xs.reverse) g1.sub hp
    exact k _ _ _ _ (s.tr g1 g.any) (.lst upd_same (hr.reverse.ex g.ex)) rfl) kx
end
end Ts


/-! What the laws share: the dice, the rounds, what is told of a fault, the law's own frame. -/
namespace Ts
variable [Tt]
open PySem PySem.Spec PyProof.Rows L2

section
variable {K : PySem.W.Frag} {E : L2.St → XK} {W : WX} {Δ : En} {te ta tb : TE} {X : Addr → Prop} {post : Out → Prop} {R : D → Prop}
abbrev IntD : D → Prop := fun d => ∃ z : Int, d = .int z
theorem OpD.imp {r : R2} {x y : D} {R R' : D → Prop} (h : OpD K r x y R) (hr : ∀ d, R d → R' d) : OpD K r x y R' := fun G H v w Q e r1 r2 k => h G H v w Q e r1 r2 fun u d G' H' g rd p => k u d G' H' g rd (hr d p)
theorem CbD.imp {r : List V → Hp → VK → Prop} {xs : List D} {R R' : D → Prop} (h : CbD K r xs R) (hr : ∀ d, R d → R' d) : CbD K r xs R' := fun G H vs Q e r1 k => h G H vs Q e r1 fun u d G' H' g rd p => k u d G' H' g rd (hr d p)
theorem ev_ix_dice {i : Nat} {j : Int} (hi : Δ[i]? = some Sl.dice) (hj : j = 0 ∨ j = 1 ∨ j = 2) : Ev K E (tOp (rIx K) (tVar i) (tC (.int j))) Δ IntD X := fun q G0 H0 G H σ Q s k kx => by
  obtain ⟨a, rfl, ha⟩ := s.rs.dice i hi
  obtain ⟨x, y, z, hd⟩ := s.dq a rfl
  have : ∃ u : Int, atI [V.int x, .int y, .int z] j = some (.int u) := by
    rcases hj with rfl | rfl | rfl
    · exact ⟨x, rfl⟩
    · exact ⟨y, rfl⟩
    · exact ⟨z, rfl⟩
  obtain ⟨u, hu⟩ := this
  exact ⟨_, ha, .inl ⟨a, _, j, .int u, rfl, rfl, .inl (.inl hd), hu, k _ _ G H s.rf (.int u) ⟨u, rfl⟩⟩⟩
theorem xs_setD {i : Nat} {j : Int} (hi : Δ[i]? = some Sl.dice) (hj : j = 0 ∨ j = 1 ∨ j = 2) (h : Ev K (WE W) te Δ IntD X) (hx : ∀ C, X C → post (.ex C Δ)) (k : post (.nx Δ)) : Xs K W (tAsg te (gSub (tVar i) (tC (.int j)) rSetL)) Δ post := fun q G0 H0 G H σ Te s k1 k2 k3 k4 k5 =>
  h q G0 H0 G H σ _ s (fun v d G1 H1 g1 r1 p1 => by
    obtain ⟨w, rfl⟩ := p1
    cases r1
    have s1 := s.go g1
    obtain ⟨a, e, ha⟩ := s1.rs.dice i hi
    subst e
    obtain ⟨n1, x, y, z, hd⟩ := s1.rs.gq a rfl
    have key : ∃ (jn : Nat) (x' y' z' : Int), ixN 3 j = some jn ∧ ([V.int x, .int y, .int z]).set jn (.int w) = [.int x', .int y', .int z'] := by
      rcases hj with rfl | rfl | rfl
      · exact ⟨0, w, y, z, rfl, rfl⟩
      · exact ⟨1, x, w, z, rfl, rfl⟩
      · exact ⟨2, x, y, w, rfl, rfl⟩
    obtain ⟨jn, x', y', z', e1, e2⟩ := key
    refine ⟨.ref a, ha, a, _, j, jn, rfl, rfl, hd, e1, ?_⟩
    rw [e2]
    have g : Gr (some a) G1 H1 G1 (upd H1 a (.lst [.int x', .int y', .int z'])) := by
      refine ⟨Exx.refl _, fun _ _ e => .inl e, fun b o e nt => ?_, fun b o c e nt => ?_, Tbd.chg hd, fun b c t => ?_⟩
      · have : b ≠ a := fun z => by
          rw [z] at e
          obtain ⟨ps, h⟩ := n1 _ e
          exact nt ps h
        rw [upd_ne this]; exact s1.sub b o e nt
      · have : b ≠ a := fun z => by
          rw [z] at c
          exact c rfl
        rw [upd_ne this]; exact e
      · cases c
        exact ⟨x', y', z', upd_same⟩
    exact k1 σ Δ G1 _ g1.ex (s1.go g) k) fun C G1 H1 g x => k5 C σ Δ G1 H1 g.ex (s.go g) (hx C x)
theorem ev_intc (h : Ev K E te Δ IntD X) : Ev K E (tCB rInt1 (tCons te tNil)) Δ IntD X :=
  ev_cb (Rs := fun ds => ∃ z : Int, ds = [.int z]) (ea_cons h (fun _ _ => ea_nil) fun d ds ⟨z, e1⟩ e2 => ⟨z, by rw [e1, e2]⟩) fun ds ⟨z, e⟩ => by subst e; exact cd_intI.imp fun d e => ⟨z, e⟩
theorem ev_iop {r : R2} {n : Int} (ha : Ev K E ta Δ IntD X) (hb : Ev K E tb Δ (· = .int n) X) (ho : ∀ i : Int, OpD K r (.int i) (.int n) R) : Ev K E (tOp r ta tb) Δ R X := ev_op ha hb fun x y ⟨z, e1⟩ e2 => by subst e1; subst e2; exact ho z
theorem et_iop {r : R2} {n : Int} (ha : Ev K E ta Δ IntD X) (hb : Ev K E tb Δ (· = .int n) X) (ho : ∀ i : Int, ∃ b, OpD K r (.int i) (.int n) (· = .bl b)) : Et K E (tTest (tOp r ta tb)) Δ (fun _ => True) X :=
  et_val (ev_iop ha hb fun i => by
    obtain ⟨b, h⟩ := ho i
    exact h.imp fun d e => ⟨b, e, trivial⟩)
/-! ### _law_roll -/
def t_roll (K : PySem.W.Frag) (W : WX) : TS :=
  (tSeq (tIfS (tOr (tTest (tOp (rEqG K) (tOp (rIx K) (tVar 0) (tC (.int 2))) (tC (.int 2)))) (tAnd (tTest (tOp (rEqG K) (tOp (rIx K) (tVar 0) (tC (.int 2))) (tC (.int 1)))) (tTest (tOp rGtG (tOp (rIx K) (tVar 0) (tC (.int 0))) (tC (.int 0)))))) (tSeq (tAsg (tOp rModG (tCB rInt1 (tCons (tOp (rIx K) (tVar 0) (tC (.int 0))) tNil)) (tVar 1)) (gName 2))
  (tSeq (tAsg (tOp rDivG (tOp (rIx K) (tVar 0) (tC (.int 0))) (tVar 1)) (gSub (tVar 0) (tC (.int 0)) rSetL))
  (tRet (tVar 2)))) tNext)
  (tSeq (tAsg (tC (.int 0)) (gSub (tVar 0) (tC (.int 2)) rSetL))
  (tSeq (tAsg (tOp rModG (tCB rInt1 (tCons (tOp (rAddG K) (tOp (rAddG K) (tOp (rMulG K) (tOp (rIx K) (tVar 0) (tC (.int 0))) (tC (.int 48271))) (tOp (rMulG K) (tOp (rIx K) (tVar 0) (tC (.int 1))) (tC (.int 69621)))) (tC (.int 11))) tNil)) (tC (.int 2147483647))) (gSub (tVar 0) (tC (.int 0)) rSetL))
  (tSeq (tAsg (tOp (rAddG K) (tOp (rIx K) (tVar 0) (tC (.int 1))) (tC (.int 1))) (gSub (tVar 0) (tC (.int 1)) rSetL))
  (tRet (tOp rModG (tCB rInt1 (tCons (tOp rDivG (tOp (rIx K) (tVar 0) (tC (.int 0))) (tC (.int 7))) tNil)) (tVar 1)))))))
def rollPre : List D → Prop := fun ds => ∃ n : Int, ds = [.int n] ∧ 0 < n ∧ n < 2 ^ 64
def rollPost : List D → Res → Prop := fun ds r => ∃ n i : Int, ds = [.int n] ∧ r = .ret (.int i) ∧ 0 ≤ i ∧ i < n
abbrev spRoll (K : PySem.W.Frag) : Sp := spQ K rollPre rollPost
theorem cdivw {i n : Int} (h : 0 < n) (h2 : n < 2 ^ 64) : CDivW i n := wide_div (b := 64) h (by omega) (by decide) (by decide)
theorem roll_xs {ds : List D} (h : rollPre ds) : Xs K W (t_roll K W) (argsQ ["dice", "many", "found"] ds) (fnP rollPost ds) := by
  obtain ⟨n, rfl, hn, hn2⟩ := h
  have i0 : ∀ {Δ : En} {j : Int}, Δ[0]? = some Sl.dice → (j = 0 ∨ j = 1 ∨ j = 2) → Ev K (WE W) (tOp (rIx K) (tVar 0) (tC (.int j))) Δ IntD (fun _ => False) := fun h1 h2 => ev_ix_dice h1 h2
  refine xs_seq (xs_if (Rt := fun _ => True) (X := fun _ => False) ?_ (fun _ z => z.elim) (fun _ => ?_) fun _ => xs_next ?_)
  · refine et_or (R1 := fun _ => True) (R2 := fun _ => True) (et_iop (i0 rfl (by simp)) ev_int fun i => ⟨_, od_eqI⟩) (fun _ => ?_) (fun _ _ _ => trivial) fun _ => trivial
    exact et_and (R1 := fun _ => True) (R2 := fun _ => True) (et_iop (i0 rfl (by simp)) ev_int fun i => ⟨_, od_eqI⟩) (fun _ => et_iop (i0 rfl (by simp)) ev_int fun i => ⟨_, od_gt⟩) (fun _ _ _ => trivial) fun _ => trivial
  · refine xs_seq (xs_asg (R := fun d => ∃ i : Int, d = .int i ∧ 0 ≤ i ∧ i < n) (X := fun _ => False) ?_ (fun _ z => z.elim) fun d hd => ?_)
    · exact ev_iop (ev_intc (i0 rfl (by simp))) (ev_var rfl) fun i => (od_mod hn).imp fun d e => ⟨_, e, Int.emod_nonneg _ (by omega), Int.emod_lt_of_pos _ hn⟩
    · obtain ⟨i, rfl, h1, h2⟩ := hd
      refine xs_seq (xs_setD (X := fun _ => False) rfl (by simp) ?_ (fun _ z => z.elim) ?_)
      · exact ev_iop (i0 rfl (by simp)) (ev_var rfl) fun i => (od_div (cdivw hn hn2)).imp fun d e => ⟨_, e⟩
      · exact xs1_ret (d := .int i) (ev_var rfl) ⟨n, i, rfl, rfl, h1, h2⟩
  · refine xs_seq (xs_setD (X := fun _ => False) rfl (by simp) (ev_int.imp fun d e => ⟨_, e⟩) (fun _ z => z.elim) ?_)
    refine xs_seq (xs_setD (X := fun _ => False) rfl (by simp) ?_ (fun _ z => z.elim) ?_)
    · refine ev_iop (ev_intc (ev_iop (ev_op (Ra := IntD) (Rb := IntD) (ev_iop (i0 rfl (by simp)) ev_int fun i => (od_mul (.inr ⟨by decide, by decide⟩)).imp fun d e => ⟨_, e⟩) (ev_iop (i0 rfl (by simp)) ev_int fun i => (od_mul (.inr ⟨by decide, by decide⟩)).imp fun d e => ⟨_, e⟩) fun x y ⟨i, e1⟩ ⟨j, e2⟩ => ?_) ev_int fun i => od_add.imp fun d e => ⟨_, e⟩)) ev_int fun i => (od_mod (by decide)).imp fun d e => ⟨_, e⟩
      subst e1; subst e2
      exact od_add.imp fun d e => ⟨_, e⟩
    · refine xs_seq (xs_setD (X := fun _ => False) rfl (by simp) ?_ (fun _ z => z.elim) ?_)
      · exact ev_iop (i0 rfl (by simp)) ev_int fun i => od_add.imp fun d e => ⟨_, e⟩
      · refine xs_ret (R := fun d => ∃ i : Int, d = .int i ∧ 0 ≤ i ∧ i < n) (X := fun _ => False) ?_ (fun _ z => z.elim) fun d hd => ?_
        · exact ev_iop (ev_intc (ev_iop (i0 rfl (by simp)) ev_int fun i => (od_div (cdivw (by decide) (by decide))).imp fun d e => ⟨_, e⟩)) (ev_var rfl) fun i => (od_mod hn).imp fun d e => ⟨_, e, Int.emod_nonneg _ (by omega), Int.emod_lt_of_pos _ hn⟩
        · obtain ⟨i, rfl, h1, h2⟩ := hd
          exact ⟨n, i, rfl, rfl, h1, h2⟩
/-! ### _law_dice -/
def t_dice (K : PySem.W.Frag) (W : WX) : TS :=
  (tSeq (tIfS (tTest (tChain (rLtG K) (rLtG K) (tOp rSubG (tC (.int 0)) (tC (.int 10))) (tVar 0) (tC (.int 10)))) (tRet (tLst (tCons (tCB rAbs (tCons (tVar 0) tNil)) (tCons (tC (.int 0)) (tCons (tC (.int 2)) tNil))))) tNext)
  (tRet (tLst (tCons (tVar 0) (tCons (tOp (rAddG K) (tC (.int 1)) (tOp rModG (tCB rInt1 (tCons (tVar 0) tNil)) (tC (.int 1009)))) (tCons (tCB rInt1 (tCons (tOp rGeG (tVar 0) (tOp rPowG (tC (.int 10)) (tC (.int 18)))) tNil)) tNil))))))
def dicePre : List D → Prop := fun ds => ∃ n : Int, ds = [.int n]
def IsDice (d : D) : Prop := ∃ x y z : Int, d = .lst [.int x, .int y, .int z]
def dicePost : List D → Res → Prop := fun ds r => ∃ d, IsDice d ∧ r = .ret d
abbrev spDice (K : PySem.W.Frag) : Sp := spD K dicePre dicePost
theorem dice_xs {ds : List D} (h : dicePre ds) : Xs K W (t_dice K W) (argsE ["cell"] ds) (fnP dicePost ds) := by
  obtain ⟨c, rfl⟩ := h
  refine xs_seq (xs_if (Rt := fun _ => True) (X := fun _ => False) (et_val ?_) (fun _ z => z.elim) (fun _ => ?_) fun _ => xs_next ?_)
  · exact ev_chain (ev1_op ev_int ev_int od_sub) (ev_var rfl) od_lt (fun _ => ev_int) (fun _ => od_lt.imp fun d e => ⟨_, e, trivial⟩) fun _ => ⟨_, rfl, trivial⟩
  · exact xs1_ret (ev1_lst (ea1_cons (ev1_cb (ea1_cons (ev_var rfl) ea_nil) cd_abs) (ea1_cons ev_int (ea1_cons ev_int ea_nil)))) ⟨_, ⟨_, _, _, rfl⟩, rfl⟩
  · exact xs1_ret (ev1_lst (ea1_cons (ev_var rfl) (ea1_cons (ev1_op ev_int (ev1_op (ev1_cb (ea1_cons (ev_var rfl) ea_nil) cd_intI) ev_int (od_mod (by decide))) od_add) (ea1_cons (ev1_cb (ea1_cons (ev1_op (ev_var rfl) (ev1_op ev_int ev_int (od_pow ⟨by decide, by decide, by decide⟩)) od_ge) ea_nil) cd_intB) ea_nil)))) ⟨_, ⟨_, _, _, rfl⟩, rfl⟩
/-! ### _law_rounds(script, 1) -/
/-- the state of slots that say nothing -/
theorem sta_no {G H : Hp} {σ : L2.St} (e : Exx G H) (tb : TbOk H) : Sta K none G H G H σ (List.replicate σ.length .no) := by
  have no : ∀ {i : Nat} {x : Sl}, (List.replicate σ.length Sl.no)[i]? = some x → x = .no := fun {i x} h => by
    rw [List.getElem?_replicate] at h
    split at h
    · exact (Option.some.inj h).symm
    · cases h
  refine Sta.start ⟨e, by simp, fun a e => (nomatch e), tb, fun i d h => ?_, fun i bs h => ?_, fun i j bs cs p h => ?_, fun i h => ?_⟩
  · cases no h
  · cases no h
  · cases no h
  · cases no h
def t_rounds (K : PySem.W.Frag) (W : WX) (sp__law_dice : Sp) : TS :=
  (tSeq (tAsg (tSl (rSlG K) (tVar 0) tNoPart (tPart (tVar 1))) (gName 2))
  (tSeq (tIfS (tTest (tOp (rEqG K) (tVar 2) (tLst tNil))) (tAsg (tLst (tCons (tC (.int 0)) tNil)) (gName 2)) tNext)
  (tRet (tLc (iSeq K (tVar 2)) (gName 3) tYes (tCallS sp__law_dice E00 (tCons (tVar 3) tNil)) [3]))))
def spRounds (K : PySem.W.Frag) : Sp := fun vs H Q E => ∃ (a : Addr) (ns : List Int), vs = [.ref a, .int 1] ∧ SqL K H a (ns.map V.int) ∧ TbOk H ∧ ∀ (l d : Addr) (H' : Hp), (∀ b o, H b = some o → (∀ ps, o ≠ HO.tbl ps) → H' b = some o) → Tbd H H' → H' l = some (.lst [.ref d]) → DiceAt H' d → Q (.ref l) H'
theorem rounds_rest {c : Option Int} : Xs K W (tSeq (tIfS (tTest (tOp (rEqG K) (tVar 2) (tLst tNil))) (tAsg (tLst (tCons (tC (.int 0)) tNil)) (gName 2)) tNext)
  (tRet (tLc (iSeq K (tVar 2)) (gName 3) tYes (tCallS (spDice K) E00 (tCons (tVar 3) tNil)) [3]))) [.no, .dat (.int 1), .dat (.lst (c.toList.map D.int)), .no] (fun o => ∃ d, IsDice d ∧ o = .rt (.lst [d])) := by
  have last : ∀ n : Int, Xs K W (tRet (tLc (iSeq K (tVar 2)) (gName 3) tYes (tCallS (spDice K) E00 (tCons (tVar 3) tNil)) [3])) [.no, .dat (.int 1), .dat (.lst [.int n]), .no] (fun o => ∃ d, IsDice d ∧ o = .rt (.lst [d])) := fun n => by
    refine xs_ret (R := fun e => ∃ d, IsDice d ∧ e = .lst [d]) (X := fun _ => False) ?_ (fun _ z => z.elim) fun e ⟨d, hd, he⟩ => ⟨d, hd, by rw [he]⟩
    refine ev_lc (Rw := (· = [.int n])) (ew_inl (ew_list ((ev_var rfl).imp fun d e => ⟨[.int n], e, rfl⟩))) (fun items i acc => acc.length = i ∧ ∀ d ∈ acc, IsDice d) (fun _ _ => ⟨rfl, by simp⟩) (fun items i d acc ei hi ha => ?_) fun items acc ei ha => ?_
    · subst ei
      have e0 : i = 0 ∧ d = .int n := by
        cases i with
        | zero => simp at hi; exact ⟨rfl, hi.symm⟩
        | succ i => simp at hi
      obtain ⟨rfl, rfl⟩ := e0
      refine ⟨[3], _, by simp, tg_name, et_yes.imp fun b eb => ⟨fun _ => ?_, fun z => by rw [eb] at z; cases z⟩⟩
      refine ev_call (Rs := (· = [.int n])) (ea1_cons (ev_var rfl) ea_nil) (fun ds e => ⟨n, e⟩) (fun ds e _ ⟨e', he, z⟩ => ?_) fun ds C _ ⟨_, _, z⟩ => by cases z
      cases z
      rw [ha.1]
      refine ⟨szlt (by decide), by rw [List.length_append, ha.1]; rfl, fun x hx => ?_⟩
      rcases List.mem_append.mp hx with z | z
      · exact ha.2 x z
      · rw [List.mem_singleton.mp z]; exact he
    · subst ei
      match acc, ha with
      | [d], ⟨_, h⟩ => exact ⟨d, h d (by simp), rfl⟩
  refine xs_seq ?_
  cases c with
  | none =>
    refine xs1_if (b := true) (et1_val (ev1_op (ev_var rfl) (ev1_lst ea_nil) (od_eqSelf rfl rfl))) (fun _ => ?_) fun z => by cases z
    exact xs1_asg (d := .lst [.int 0]) (ev1_lst (ea1_cons ev_int ea_nil)) (last 0)
  | some n =>
    refine xs_if (Rt := fun _ => True) (X := fun _ => False) (et_val (ev_op (Ra := (· = .lst [.int n])) (Rb := (· = .lst [])) (ev_var rfl) (ev1_lst ea_nil) fun x y e1 e2 => ?_)) (fun _ z => z.elim) (fun _ => ?_) fun _ => ?_
    · subst e1; subst e2
      exact (od_eqD rfl rfl).imp fun d e => ⟨_, e, trivial⟩
    · exact xs1_asg (d := .lst [.int 0]) (ev1_lst (ea1_cons ev_int ea_nil)) (last 0)
    · exact xs_next (last n)
theorem rounds_pure {H : Hp} {vs : List V} {Q : VK} {E : XK} (h : spRounds K vs H Q E) : t_rounds K W (spDice K) { nx := fun _ H' => Q .non H', rt := Q } (L2.start ["script", "most", "cells", "cell"] vs) H := by
  obtain ⟨a, ns, rfl, hS, tb, k⟩ := h
  refine ⟨_, rfl, ⟨_, rfl, _, rfl, .inl ⟨a, _, rfl, hS, fun p hp => ?_⟩⟩⟩
  let G1 : Hp := upd (fun _ => none) p (.lst (cutV (ns.map V.int) none (some 1)))
  let H1 : Hp := upd H p (.lst (cutV (ns.map V.int) none (some 1)))
  have e1 : Exx G1 H1 := fun b o e nt => by
    by_cases c : b = p
    · rw [c] at e ⊢
      have e' := e
      show upd H p _ p = _
      rw [upd_same]
      rw [show G1 p = some _ from upd_same] at e'
      exact e'
    · rw [show G1 b = none from upd_ne c] at e
      cases e
  have s0 : Sta K none G1 H1 G1 H1 [some (V.ref a), some (V.int 1), none, none] (List.replicate 4 .no) := sta_no e1 (Tbd.new hp tb)
  have r1 : RpL K G1 (cutV (ns.map V.int) none (some 1)) (cutD (ns.map D.int) none (some 1)) := (RpL.ints ns).cut none (some 1)
  have ec : cutD (ns.map D.int) none (some 1) = (ns.head?.toList.map D.int) := by
    rw [show (some (1 : Int)) = some ((1 : Nat) : Int) from rfl, cutD_to]
    cases ns <;> rfl
  have s1 := (s0.set (i := 1) (v := .int 1) (.int 1)).set (i := 2) (v := .ref p) (d := .lst (ns.head?.toList.map D.int)) (by rw [← ec]; exact .lst upd_same r1)
  refine rounds_rest (W := W) none G1 H1 G1 H1 _ _ s1 (fun _ _ _ _ _ _ ⟨_, _, z⟩ => nomatch z) (fun v d G' H' g rv p2 => ?_) (fun _ _ _ _ _ _ ⟨_, _, z⟩ => nomatch z) (fun _ _ _ _ _ _ ⟨_, _, z⟩ => nomatch z) (fun _ _ _ _ _ _ _ ⟨_, _, z⟩ => nomatch z)
  obtain ⟨d', ⟨x, y, z, hd⟩, e⟩ := p2
  cases e
  obtain ⟨l, xs, rfl, hl, hr⟩ := rv.lst_inv
  cases hr with
  | cons ra rr =>
    cases rr
    subst hd
    obtain ⟨dd, ys, rfl, hdd, hr2⟩ := ra.lst_inv
    have ey : ys = [V.int x, .int y, .int z] := by
      have := RpL.ints_inv (ns := [x, y, z]) hr2
      exact this
    subst ey
    refine k l dd H' (fun b o e nt => g.keep b o (by simp) (by show upd H p _ b = _; rw [upd_ne (ne_of_none e hp)]; exact e) nt) (fun t => g.tk (Tbd.new hp t)) (g.sub.l hl) ⟨x, y, z, g.sub.l hdd⟩
end
end Ts


/-! Faults that are told, the law's own def, its frame. -/
namespace Ts
variable [Tt]
open PySem PySem.Spec PyProof.Rows L2

section
variable {K : PySem.W.Frag} {E : L2.St → XK} {W : WX} {Δ : En} {te ta tb : TE} {X : Addr → Prop} {post : Out → Prop} {R : D → Prop}
/-- _law_told(lambda: ..) -/
theorem ev_told {i : Nat} {t : XK → TE} {CS : Addr} {ret : Str} {Xb : Addr → Prop} (hi : Δ[i]? = some Sl.dice) (h : ∀ EL, Ev K (fun _ => EL) (t EL) Δ R Xb) (hx : ∀ C, Xb C → PySem.W.exmOne K (.ref C) (.ref CS) = some true) :
    Ev K E (LamX.tLam Tt.tb (LamX.TTold K CS ret) t) Δ (fun d => R d ∨ ((∃ C, Xb C) ∧ d = .str ret)) X := fun q G0 H0 G H σ Q s k kx => by
  obtain ⟨a, rfl, ha⟩ := s.rs.dice i hi
  obtain ⟨n1, dq⟩ := s.rs.gq a rfl
  refine ⟨s.rs.tb, fun H1 e1 T1 => ?_⟩
  have g : Gr (some a) G H G H1 := ⟨Exx.refl _, fun _ _ e => .inl e, fun b o e nt => e1 b o (s.sub b o e nt) nt, fun b o _ e nt => e1 b o e nt, fun _ => T1, fun b c ⟨x, y, z, d⟩ => by
    cases c
    exact ⟨x, y, z, e1 _ _ d (fun _ z => nomatch z)⟩⟩
  exact h _ (some a) G0 H0 G H1 σ Q (s.go g) (fun v d G' H' g' rv p => k v d G' H' (s.tr g g') rv (.inl p)) fun C G' H' g' x => ⟨true, hx C x, fun _ => k _ _ G' H' (s.tr g g') (.str ret) (.inr ⟨⟨C, x⟩, rfl⟩), fun z => by cases z⟩
theorem emp_sub {H : Hp} : Exx (fun _ => none) H := fun _ _ e _ => nomatch e
/-- .. at the end of a law -/
theorem told_fin {σ : L2.St} {H : Hp} {Q : VK} {t : XK → TE} {CS : Addr} {ret : Str} {Xb : Addr → Prop} (hT : TbOk H) (h : ∀ EL, Ev K (fun _ => EL) (t EL) (List.replicate σ.length .no) (fun _ => False) Xb) (hx : ∀ C, Xb C → PySem.W.exmOne K (.ref C) (.ref CS) = some true)
    (k : ∀ H', TbOk H' → Q (.str ret) H') : LamX.tLam Tt.tb (LamX.TTold K CS ret) t σ H Q := by
  refine ⟨hT, fun H1 e1 T1 => ?_⟩
  exact h _ none _ H1 _ H1 σ Q (sta_no emp_sub T1) (fun _ _ _ _ _ _ z => z.elim) fun C G' H' g' x => ⟨true, hx C x, fun _ => k H' (g'.tk T1), fun z => by cases z⟩
/-- an expression at the end of a law -/
theorem ev_fin {σ : L2.St} {H : Hp} {Q : VK} {v : V} {d : D} (h : Ev K E te (List.replicate σ.length .no) (· = d) fun _ => False) (hv : d.v = some v) (tb : TbOk H) (k : ∀ H', TbOk H' → Q v H') : te σ H Q :=
  h none _ H _ H σ Q (sta_no emp_sub tb) (fun u d' G' H' g r e => by
    subst e
    rw [r.sc hv]
    exact k H' (g.tk tb)) fun _ _ _ _ z => z.elim
theorem dec_str {x y : Str} : decide (V.str x = V.str y) = decide (x = y) := by rw [Bool.eq_iff_iff]; simp
/-- .. == 'Fault' -/
theorem told_eq {σ : L2.St} {H : Hp} {Q : VK} {ret : Str} {tl : TE} (h : ∀ Q' : VK, (∀ H', TbOk H' → Q' (.str ret) H') → tl σ H Q') (k : ∀ H', TbOk H' → Q (.bl true) H') : tOp (rEqG K) tl (tC (.str ret)) σ H Q :=
  h _ fun H' t => .inl ⟨rfl, by
    rw [decide_eq_true rfl]
    exact k H' t⟩
/-- a and b, both true, at the end of a law -/
theorem and_fin {σ : L2.St} {H : Hp} {Q : VK} (h1 : ∀ Q' : VK, (∀ H', TbOk H' → Q' (.bl true) H') → ta σ H Q') (h2 : ∀ H', TbOk H' → tb σ H' Q) : tAndV ta tb σ H Q := h1 _ fun H' t => ⟨true, rfl, iteT (h2 H' t)⟩
end

/-! ### the derivation of such a call -/
section
variable {X : Cx}
theorem pe_told {k j : Nat} {c P CS g : Addr} {x e ret : Str} {pg : Arguments} {sg : Scope} {fd : FuncData} {p1 p2 p3 p4 p5 p6 p7 p8 lpos p pos : Pos} {params : Arguments} {body : Expr} {scope : Scope} {t : XK → TE} 
    (F : FunD X.K x x pg [.Try [.Return (some (.Call (.Name "what" p1) [] [] p2)) p3] [.ExceptHandler (some (.Name e p4)) none [.Return (some (.Constant (.str ret) j p5)) p6] p7] [] [] p8] sg [] [] g fd)
    (hm : X.mg x = some (.ref g)) (hb : Binds X.K fd ["what"] []) (Sg : FnScope ["what"] ["what"] sg) (hva : Vis sg "what") (hge : sg.names.lookup e = some .globalImplicit) (hme : X.mg e = some (.ref CS))
    (TB : LamX.TabB X.base X.mg c P) (hcode : X.env.code = .ref c) (hmT : (P, X.env.qual ++ "<lambda>") ∈ Tt.tb) (hu : ∀ p ∈ Tt.tb, p.1 = P → p.2 = X.env.qual ++ "<lambda>") (hr : Room (k + 2) X.A) (hg : Gl X x) (L : LamX.LamS X.env.scope scope) (hdef : defaultsOf params X.env = ([], []))
    (hbind : ∀ (q : Str) (cl : List (Str × Addr)) (pm cv ctv : Value), bindArgs (PySem.W.kla_fn "<lambda>" q params body scope cl pm cv ctv) ⟨[], []⟩ = pure [])
    (hbody : ∀ (A : Around) (outer : List Env) (s : Shared) (H : Hp) (E : XK) (f c' : Addr), Room k (A.deeper (LamX.lamEnv X scope s.heap.objs.size f c')) → PE (LamX.lamCx X A outer s H E scope f c') body (t E))
    (hdb : (x == ("__debug__" : Str)) = false := by decide) (hde : (e == ("__debug__" : Str)) = false := by decide) :
    PE X (.Call (.Name x p) [.Lambda params body scope lpos] [] pos) (LamX.tLam Tt.tb (LamX.TTold X.K CS ret) t) := by
  have kp := F.kp
  obtain ⟨oc, od, dV, kV, doc, pm, an, cdv, ct, osl, rfl, lk, hcd, _, _⟩ := F.ex
  exact LamX.pe_lamcall (Ng := ["what"]) hg hm kp lk hcd hb Sg rfl hva (LamX.told_gives hge hme hde fun _ => rfl) TB hcode hmT hu hr L hdef hbind hbody hdb
end

/-! ### the law's own def -/
section
variable {P : Program} {w : World} {K : PySem.W.Frag} {mg : Str → Option Value} {base : Heap}
/-- a def with a promise over heaps, its code object known -/
theorem fn_H {x qual : Str} {params : Arguments} {body : List Stmt} {scope : Scope} {f : Addr} {fd : FuncData} {N ps : List Str} {k : Nat} {sp : Sp} {t : WX → TS} (F : FunD K x qual params body scope [] [] f fd) (S : FnScope N ps scope) (len : ∀ vs H Q E, sp vs H Q E → vs.length = ps.length)
    (der : ∀ (cdv : Value) (A : Around) (outer : List Env) (s : Shared) (H : Hp) (E : XK), fd.code = cdv → Room k (A.deeper (envOfC qual scope s.heap.objs.size f cdv)) → PSs (cxOf (L2.CX P w) P w K mg base N qual scope f cdv A outer s H E) body (t (wDef E)))
    (h : ∀ (W : WX) vs H Q E, sp vs H Q E → t W { nx := fun _ H' => Q .non H', rt := Q } (L2.start N vs) H) : FnOk P w K mg base (L2.CX P w) (k + 1) f fd ps sp := by
  refine ⟨len, fun A outer s H args us vs Q E hr e0 hb r hsp => ?_⟩
  obtain ⟨oc, od, dV, kV, doc, pm, an, cdv, ct, osl, rfl, lk, hcd, _, _⟩ := F.ex
  exact LamX.run_ofS lk hcd S hr e0 hb r (len vs H Q E hsp) fun hr' => ⟨t (wDef E), der cdv A outer s H E rfl hr', h (wDef E) vs H Q E hsp⟩
theorem code_of {x qual : Str} {params : Arguments} {body : List Stmt} {scope : Scope} {q : Str × Option Str} {fd : FuncData} (F : FunD K x qual params body scope [] [] (He.fAd K q) fd) : fd.code = .ref (He.cT K q).1 := by
  obtain ⟨oc, od, dV, kV, doc, pm, an, cdv, ct, osl, rfl, lk, hcd, _, _⟩ := F.ex
  obtain ⟨c, e⟩ := He.codeIn_ref hcd
  have : He.codeOf K q = c := He.codeOf_eq lk e
  show cdv = .ref (He.codeOf K q)
  rw [this, e]
/-- a def of data, known by its name -/
theorem cal_of {x : Str} {f : Addr} {fd : FuncData} {ps : List Str} {k : Nat} {sp : Sp} (F : FnOk P w K mg base (L2.CX P w) k f fd ps sp) (hm : mg x = some (.ref f)) (kp : PySem.W.keepIn K (.ref f) = true) (b : Binds K fd ps []) : Cal P w K mg base k x sp := ⟨⟨f, fd, ps, F, hm, kp, b⟩⟩
def spLaw (K : PySem.W.Frag) (cs : List Addr) : Sp := fun vs H Q E => ∃ (a : Addr) (ns : List Int), vs = [.ref a] ∧ SqL K H a (ns.map V.int) ∧ (∀ p ∈ cs, H p = some (.tbl #[])) ∧ ∀ H', Q (.bl true) H'
/-- for dice in _law_rounds(script, 1): ..; return .. -/
theorem law_frame {W : WX} {N : List Str} {cs : List Addr} {tb : TS} {tf : TE} {vs : List V} {H : Hp} {Q : VK} {E : XK} {n : Nat} (h : spLaw K cs vs H Q E) (hT : ∀ p ∈ Tt.tb, p.1 ∈ cs) (hN : N.length = n + 2)
    (hb : Xs K W tb (Sl.no :: Sl.dice :: List.replicate n Sl.no) (fun o => match o with
      | .nx _ => True
      | .ct _ => True
      | _ => False))
    (hf : ∀ (σ : L2.St) (H' : Hp), TbOk H' → tf σ H' Q) :
    (tSeq (tFor (iSeq K (tCallS (spRounds K) (WE W) (tCons (tVar 0) (tCons (tC (.int 1)) tNil)))) (gName 1) tb) (tRet tf)) { nx := fun _ H' => Q .non H', rt := Q } (L2.start N vs) H := by
  obtain ⟨a, ns, rfl, hS, hcs, k⟩ := h
  have hT0 : TbOk H := fun p hp => .nil (hcs _ (hT p hp))
  have hlen : (L2.start N [V.ref a]).length = n + 2 := by simp [L2.start, hN]
  refine .inl ⟨.ref a, start_get rfl, a, ns, rfl, hS, hT0, fun l d H1 e1 tk1 hl hd => ⟨l, rfl, ⟨[.ref d], .inl (.inl hl)⟩, ?_⟩⟩
  have hld : ∀ {H' : Hp}, H' l = some (.lst [.ref d]) → DiceAt H' d → l ≠ d := fun h1 ⟨x, y, z, h2⟩ e => by
    rw [e, h2] at h1
    cases h1
  refine ⟨fun i m σ' H' => m = 1 - i ∧ i ≤ 1 ∧ H' l = some (.lst [.ref d]) ∧ DiceAt H' d ∧ TbOk H' ∧ (i = 0 → σ'.length = n + 2 ∧ σ'[0]? = some (some (.ref a))), ⟨1, rfl, by decide, hl, hd, tk1 hT0, fun _ => ⟨hlen, start_get rfl⟩⟩, ?_⟩
  rintro i m σ' H' ⟨rfl, hi, h1, h2, h3, h4⟩
  by_cases hi0 : i = 0
  · subst hi0
    obtain ⟨h5, h6⟩ := h4 rfl
    refine .inr ⟨⟨[.ref d], .ref d, .inl (.inl h1), rfl⟩, fun σ2 H2 => H2 l = some (.lst [.ref d]) ∧ DiceAt H2 d ∧ TbOk H2, fun σ2 H2 ⟨a1, a2, a3⟩ => ⟨0, by decide, rfl, Nat.le_refl _, a1, a2, a3, fun z => nomatch z⟩, fun x H2 y => ?_⟩
    obtain ⟨e, y⟩ := y
    subst e
    have ex : V.ref d = x := by
      have := y [.ref d] (.inl (.inl h1))
      simpa using this
    subst ex
    have st : Sta K (some d) (fun _ => none) H2 (fun _ => none) H2 (σ'.set 1 (some (V.ref d))) (Sl.no :: Sl.dice :: List.replicate n Sl.no) := by
      have no : ∀ {i : Nat} {x : Sl}, (Sl.no :: Sl.dice :: List.replicate n Sl.no)[i]? = some x → x = .no ∨ (i = 1 ∧ x = .dice) := fun {i x} h => by
        match i with
        | 0 => exact .inl (Option.some.inj h).symm
        | 1 => exact .inr ⟨rfl, (Option.some.inj h).symm⟩
        | i + 2 =>
          have h' : (List.replicate n Sl.no)[i]? = some x := by simpa using h
          rw [List.getElem?_replicate] at h'
          split at h'
          · exact .inl (Option.some.inj h').symm
          · cases h'
      refine Sta.start ⟨emp_sub, by simp [h5], fun b e => ?_, h3, fun i d' h => ?_, fun i bs h => ?_, fun i j bs cs p h => ?_, fun i h => ?_⟩
      · cases e
        exact ⟨fun _ e => (nomatch e), h2⟩
      · rcases no h with z | ⟨_, z⟩ <;> cases z
      · rcases no h with z | ⟨_, z⟩ <;> cases z
      · rcases no h with z | ⟨_, z⟩ <;> cases z
      · rcases no h with z | ⟨z1, z⟩
        · cases z
        · cases z
          subst z1
          exact ⟨d, rfl, List.getElem?_set_self (by omega)⟩
    have fin : ∀ {σ2 : L2.St} {Δ2 : En} {G2 H3 : Hp}, Sta K (some d) (fun _ => none) H2 G2 H3 σ2 Δ2 → H3 l = some (.lst [.ref d]) ∧ DiceAt H3 d ∧ TbOk H3 := fun s => by
      refine ⟨s.gr.kl (fun z => ?_) h1, s.gr.dq d rfl h2, s.gr.tk h3⟩
      exact hld h1 h2 (Option.some.inj z).symm
    exact hb _ _ _ _ _ _ _ st (fun _ _ _ _ _ s _ => fin s) (fun _ _ _ _ _ _ z => z.elim) (fun _ _ _ _ _ _ z => z.elim) (fun _ _ _ _ _ s _ => fin s) fun _ _ _ _ _ _ _ z => z.elim
  · have e : i = 1 := by omega
    subst e
    exact .inl ⟨⟨[.ref d], .inl (.inl h1), Nat.le_refl _⟩, hf σ' H' h3⟩
end
end Ts


/-! More on data: what == may look at; a, b, c = [], x, y. -/
namespace Ts
variable [Tt]
open PySem PySem.Spec PyProof.Rows L2

/-! ### data that == may look at, at most n deep -/
def okN : Nat → D → Bool
  | _, .non => true
  | _, .bl _ => true
  | _, .int _ => true
  | _, .str x => PyData.strOk x
  | n + 1, .lst xs => xs.all (okN n)
  | n + 1, .tup xs => xs.all (okN n)
  | _, _ => false
theorem okN_spec : ∀ (n : Nat) (d : D), okN n d = true → d.pure = true ∧ PyData.canLay0 d.py = true ∧ PyData.depth d.py ≤ n
  | n, .non, _ => ⟨rfl, rfl, Nat.zero_le _⟩
  | n, .bl _, _ => ⟨rfl, rfl, Nat.zero_le _⟩
  | n, .int _, _ => ⟨rfl, rfl, Nat.zero_le _⟩
  | n, .str x, h => ⟨rfl, by
    have h' : PyData.strOk x = true := by cases n <;> exact h
    exact h', Nat.zero_le _⟩
  | 0, .lst _, h => by simp [okN] at h
  | 0, .tup _, h => by simp [okN] at h
  | 0, .obj _ _, h => by simp [okN] at h
  | n + 1, .obj _ _, h => by simp [okN] at h
  | n + 1, .lst xs, h => by
    have key : ∀ ys : List D, ys.all (okN n) = true → D.pures ys = true ∧ PyData.canLayAll0 (D.pys ys) = true ∧ PyData.depthAll (D.pys ys) ≤ n := by
      intro ys
      induction ys with
      | nil => intro _; exact ⟨rfl, rfl, Nat.zero_le _⟩
      | cons y ys ih =>
        intro h
        obtain ⟨h1, h2⟩ := Bool.and_eq_true_iff.mp (by simpa using h : (okN n y && ys.all (okN n)) = true)
        obtain ⟨a1, a2, a3⟩ := okN_spec n y h1
        obtain ⟨b1, b2, b3⟩ := ih h2
        refine ⟨?_, ?_, ?_⟩
        · show (y.pure && D.pures ys) = true
          rw [a1, b1]; rfl
        · show (PyData.canLay0 y.py && PyData.canLayAll0 (D.pys ys)) = true
          rw [a2, b2]; rfl
        · exact Nat.max_le.mpr ⟨a3, b3⟩
    obtain ⟨k1, k2, k3⟩ := key xs (by simpa [okN] using h)
    exact ⟨k1, k2, Nat.succ_le_succ k3⟩
  | n + 1, .tup xs, h => by
    have key : ∀ ys : List D, ys.all (okN n) = true → D.pures ys = true ∧ PyData.canLayAll0 (D.pys ys) = true ∧ PyData.depthAll (D.pys ys) ≤ n := by
      intro ys
      induction ys with
      | nil => intro _; exact ⟨rfl, rfl, Nat.zero_le _⟩
      | cons y ys ih =>
        intro h
        obtain ⟨h1, h2⟩ := Bool.and_eq_true_iff.mp (by simpa using h : (okN n y && ys.all (okN n)) = true)
        obtain ⟨a1, a2, a3⟩ := okN_spec n y h1
        obtain ⟨b1, b2, b3⟩ := ih h2
        refine ⟨?_, ?_, ?_⟩
        · show (y.pure && D.pures ys) = true
          rw [a1, b1]; rfl
        · show (PyData.canLay0 y.py && PyData.canLayAll0 (D.pys ys)) = true
          rw [a2, b2]; rfl
        · exact Nat.max_le.mpr ⟨a3, b3⟩
    obtain ⟨k1, k2, k3⟩ := key xs (by simpa [okN] using h)
    exact ⟨k1, k2, Nat.succ_le_succ k3⟩
theorem okN_ok {n : Nat} {d : D} (h : okN n d = true) (hn : n ≤ 64 := by decide) : d.ok = true := by
  obtain ⟨h1, h2, h3⟩ := okN_spec n d h
  unfold D.ok SeqAt.shaped
  rw [h1, h2, decide_eq_true (Nat.le_trans h3 hn)]
  rfl

/-! ### a, b, c = [], x, y, the list one's own -/
section
variable {K : PySem.W.Frag} {q : Qd} {G0 H0 G H : Hp} {σ : L2.St} {Δ : En} {W : WX} {te tf : TE} {post : Out → Prop}
/-- a new list lies at p; the slot i gets it -/
theorem Sta.ownAt (s : Sta K q G0 H0 G H σ Δ) {i : Nat} {p : Addr} {ds : List D} {vs : List V} (hp : H p = some (.lst vs)) (r : RpL K G vs ds) (n1 : Nt G p) (n0 : Nt H0 p) (nq : q ≠ some p)
    (other : ∀ (l : Nat) (as : List D), Δ[l]? = some (Sl.own as) → σ[l]? ≠ some (some (V.ref p))) : Sta K q G0 H0 G H (σ.set i (some (V.ref p))) (Δ.set i (.own ds)) := by
  have old : ∀ {j : Nat} {e : Sl}, (Δ.set i (Sl.own ds))[j]? = some e → (j = i ∧ e = .own ds ∧ i < Δ.length) ∨ (j ≠ i ∧ Δ[j]? = some e ∧ (σ.set i (some (V.ref p)))[j]? = σ[j]?) := fun {j e} he => by
    by_cases c : i = j
    · subst c
      have hl : i < Δ.length := by
        have := (List.getElem?_eq_some_iff.mp he).1
        simpa using this
      rw [List.getElem?_set_self hl] at he
      cases he
      exact .inl ⟨rfl, rfl, hl⟩
    · rw [List.getElem?_set_ne c] at he
      exact .inr ⟨fun z => c z.symm, he, List.getElem?_set_ne c⟩
  have self : ∀ {l : Nat}, l = i → i < Δ.length → (σ.set i (some (V.ref p)))[l]? = some (some (V.ref p)) := fun {l} e hl => by
    subst e
    exact List.getElem?_set_self (by rw [s.rs.len]; exact hl)
  refine ⟨s.gr, s.hq, s.rs.sub, by rw [List.length_set, List.length_set]; exact s.rs.len, s.rs.gq, s.rs.tb, fun j e he => ?_, fun j bs he => ?_, fun j k bs cs p2 h1' h2' h3' h4' => ?_, fun j he => ?_⟩
  · rcases old he with ⟨_, c, _⟩ | ⟨_, c, c2⟩
    · cases c
    · rw [c2]; exact s.rs.dat j e c
  · rcases old he with ⟨c1, c, hl⟩ | ⟨_, c, c2⟩
    · cases c
      exact ⟨p, vs, self c1 hl, hp, r, n1, n0, nq⟩
    · rw [c2]; exact s.rs.own j bs c
  · rcases old h1' with ⟨c1, _, hl⟩ | ⟨m1, c1, e1⟩
    · rcases old h2' with ⟨c2, _, _⟩ | ⟨m2, c2, e2⟩
      · rw [c1, c2]
      · rw [self c1 hl] at h3'
        cases h3'
        rw [e2] at h4'
        exact absurd h4' (other _ _ c2)
    · rcases old h2' with ⟨c2, _, hl⟩ | ⟨m2, c2, e2⟩
      · rw [self c2 hl] at h4'
        cases h4'
        rw [e1] at h3'
        exact absurd h3' (other _ _ c1)
      · rw [e1] at h3'
        rw [e2] at h4'
        exact s.rs.dif j k bs cs p2 c1 c2 h3' h4'
  · rcases old he with ⟨_, c, _⟩ | ⟨_, c, c2⟩
    · cases c
    · rw [c2]; exact s.rs.dice j c
theorem xs1_par30 {i j l : Nat} {d e : D} (h : Ev K (WE W) te Δ (· = d) fun _ => False) (h' : Ev K (WE W) tf Δ (· = e) fun _ => False) (k : post (.nx (((Δ.set i (.own [])).set j (.dat d)).set l (.dat e)))) :
    Xs K W (tPar3 i j l (tCons (tLst tNil) (tCons te (tCons tf tNil)))) Δ post := fun q G0 H0 G H σ T s k1 k2 k3 k4 k5 => by
  refine ⟨Nat.zero_le _, fun p hp => ?_⟩
  have g0 : Gr none G H G (upd H p (.lst [])) :=
    ⟨Exx.refl G, fun _ _ e => .inl e, fun a o e nt => by rw [upd_ne (ne_of_none (s.sub a o e nt) hp)]; exact s.sub a o e nt, fun a o _ e _ => by rw [upd_ne (ne_of_none e hp)]; exact e, Tbd.new hp, fun _ z => nomatch z⟩
  have s0 := s.go g0.any
  have hGp : Nt G p := fun o c => Classical.byContradiction fun n => by
    rw [s.sub p o c (fun ps z => n ⟨ps, z⟩)] at hp; cases hp
  have hH0 : Nt H0 p := s.gr.live s.hq (.of hp)
  have hqp : q ≠ some p := fun c => by
    obtain ⟨x, y, z, e⟩ := s.dq p c
    rw [hp] at e; cases e
  refine h q G0 H0 G _ σ _ s0 (fun v d' G1 H1 g1 r1 p1 => ?_) fun _ _ _ _ z => z.elim
  refine h' q G0 H0 G1 H1 σ _ (s0.go g1) (fun u e' G2 H2 g2 r2 p2 => ?_) fun _ _ _ _ z => z.elim
  subst p1; subst p2
  have g := s0.tr g1 g2
  have s2 := s0.go g
  have hp2 : H2 p = some (.lst []) := g.kl hqp upd_same
  have hG2 : Nt G2 p := g.un hGp upd_same
  have other : ∀ (l : Nat) (as : List D), Δ[l]? = some (Sl.own as) → σ[l]? ≠ some (some (V.ref p)) := fun l as e z => by
    obtain ⟨p3, vs3, a1, a2, _⟩ := s.rs.own l as e
    rw [a1] at z
    cases z
    rw [hp] at a2; cases a2
  exact ⟨_, _, _, rfl, k1 _ _ G2 H2 g.ex (((s2.ownAt (i := i) hp2 .nil hG2 hH0 hqp other).set (r1.ex g2.ex)).set r2) k⟩
end
/-! ### range(a, b, c) upward -/
theorem RgC.up {n l : Nat} (h0 : 0 < l) (h1 : l < 2 ^ 29) (h2 : n < 2 ^ 60) : RgC 0 (n : Int) (l : Int) ((n + l - 1) / l) := by
  have e : Builtin.Range.rangeSize 0 (n : Int) (l : Int) = (((n + l - 1) / l : Nat) : Int) := by
    unfold Builtin.Range.rangeSize
    rw [if_pos (by omega)]
    by_cases hn : n = 0
    · subst hn
      rw [if_neg (by omega)]
      have : (0 + l - 1) / l = 0 := Nat.div_eq_of_lt (by omega)
      rw [this]; rfl
    · rw [if_pos (by omega)]
      have e1 : n + l - 1 = (n - 1) + l := by omega
      rw [e1, Nat.add_div_right _ h0]
      have e2 : (n : Int) - 0 - 1 = ((n - 1 : Nat) : Int) := by omega
      rw [e2, Int.natCast_add, Int.natCast_ediv]
      rfl
  refine ⟨by omega, by omega, ?_, e⟩
  have h3 : (n + l - 1) / l ≤ n + l := Nat.le_trans (Nat.div_le_self _ _) (by omega)
  have h4 : (n + l - 1) / l * l ≤ n + l - 1 := Nat.div_mul_le_self _ _
  unfold Builtin.Range.small
  rw [e]
  have e5 : (((n + l - 1) / l : Nat) : Int) * (l : Int) = (((n + l - 1) / l * l : Nat) : Int) := by rw [Int.natCast_mul]
  simp only [Builtin.Range.rangeFitsLong, Bool.and_eq_true, Bool.or_eq_true, decide_eq_true_eq, beq_iff_eq]
  generalize (n + l - 1) / l = m at *
  refine ⟨by omega, .inr ?_⟩
  rw [if_pos (by omega)]
  simp only [Bool.and_eq_true, decide_eq_true_eq]
  omega
end Ts


/-! More rules: += on tuples, *=, //=, two lists of one's own, sums, membership in lists, try, raise .. from None. -/
namespace Ts
variable [Tt]
open PySem PySem.Spec PyProof.Rows L2

/-! ### x += y of tuples; x *= y, x //= y -/
theorem no_tup_iadd : typeLookup (.type "tuple") (dunderI "add") = pure none := by rw [typeLookup_type, builtinLookup_eq_fast]; kernel_rfl
theorem icat {P : Program} {w : World} {A : Around} {E : Value → Shared → Prop} {s : Shared} {t b : Addr} {vs ws : List Value} {Q : Value → Shared → Prop} (ht : IsTup s.heap t vs.toArray) (hb : IsTup s.heap b ws.toArray) (h0 : vs = [] → Q (.ref b) s) (h1 : vs ≠ [] → ws = [] → Q (.ref t) s)
    (h2 : vs ≠ [] → ws ≠ [] → Q (.ref s.heap.objs.size) { s with heap := s.heap.push { cls := .type "tuple", data := .seq (vs ++ ws).toArray } }) (hsz : vs.length + ws.length ≤ sizeLine) : wpAny (model P w) A (inplaceOp .Add (.ref t) (.ref b)) Q E s := by
  obtain ⟨⟨c1, d1, y1, l1⟩, ho, hc, n, hd⟩ := id ht
  obtain ⟨⟨c2, d2, y2, l2⟩, ho2, hc2, n2, hd2⟩ := id hb
  simp only at hc hd hc2 hd2
  subst hc hd hc2 hd2
  have go : ∀ {S : PySem.Spec} (g : PySem.Meets (Builtin.«tuple.__add__» ⟨[.ref t, .ref b], []⟩) S), S A (PySem.wants Q E) s → wpAny (model P w) A (inplaceOp .Add (.ref t) (.ref b)) Q E s := fun {S} g h =>
    PySem.wpAny_inplaceOp_concat ⟨_, ho, rfl⟩ ⟨_, ho2, rfl⟩ no_tup_iadd noFill_tuple_add seq_tuple_add (PySem.call_meets PySem.F.slot_tuple_add ⟨_, ho, rfl⟩ PySem.F.entry_tuple_add (PySem.F.args_tuple_add_2 _ _) g h)
  by_cases hv : vs = []
  · subst hv
    exact go (tuple_addW0 t b ([] : List Value).toArray ws.toArray n n2 d1 d2 l1 l2 (by simp)) ⟨ho, ho2, h0 rfl⟩
  · by_cases hw : ws = []
    · exact go (tuple_addW1 t b vs.toArray ws.toArray n n2 d1 d2 l1 l2 (by simpa using hv) (by simp [hw])) ⟨ho, ho2, h1 hv hw⟩
    · refine go (tuple_addW2 t b vs.toArray ws.toArray n n2 d1 d2 l1 l2 (by simpa using hv) (by simpa using hw) (by simp only [List.size_toArray]; exact hsz)) ⟨ho, ho2, ?_⟩
      have e : vs.toArray ++ ws.toArray = (vs ++ ws).toArray := by simp
      rw [e]
      exact h2 hv hw
theorem ip_cat {X : Cx} : PIp X .Add (rCatA X.K) := by
  intro pins s σ H x y v u Q I rx ry h
  obtain ⟨a, b, xs, ys, rfl, rfl, ha, hb, hz, q0, q1, q2⟩ := h
  cases rx
  cases ry
  obtain ⟨its, r1, p1, _⟩ := I.tuple ha
  obtain ⟨its2, r2, p2, _⟩ := I.tuple hb
  refine icat p1 p2 (fun z => ⟨.ref b, H, I, rfl, q0 (r1.nil_iff.mp z)⟩) (fun z1 z => ⟨.ref a, H, I, rfl, q1 (fun e => z1 (r1.nil_iff.mpr e)) (r2.nil_iff.mp z)⟩) (fun z1 z => ?_) (by rw [← r1.length, ← r2.length]; exact hz)
  refine ⟨.ref s.heap.objs.size, _, I.laid (t' := s.toks) (o := .tup (xs ++ ys)) (fun b ob q => Heap.get?_push_of_some _ q) (Nat.le_refl _) ?_, rfl, q2 (fun e => z1 (r1.nil_iff.mpr e)) (fun e => z (r2.nil_iff.mpr e)) _ (I.hok.fresh (Nat.le_refl _))⟩
  exact ⟨by rw [List.length_append]; exact hz, _, r1.append r2, IsTup.new _ _⟩
def rIAddA (K : PySem.W.Frag) : TIp := fun x y H Q => rIAddG x y H Q ∨ rCatA K x y H Q
theorem ip_addA {X : Cx} : PIp X .Add (rIAddA X.K) := PIp.or ip_addG ip_cat
def rIMulG : TIp := rI CMul fun i j => .int (i * j)
def rIDivG : TIp := rI CDivW fun i j => .int (i / j)
theorem ip_mulG {X : Cx} : PIp X .Mult rIMulG := by
  intro pins s σ H x y v u Q I r1 r2 h
  obtain ⟨i, j, e1, e2, hc, q⟩ := h
  subst e1; subst e2
  obtain ⟨t, rfl⟩ := r1
  obtain ⟨t', rfl⟩ := r2
  exact PyProof.Rows.imul_int ⟨.int _, H, I.tok _, ⟨_, rfl⟩, q⟩ hc.ok
theorem ip_divG {X : Cx} : PIp X .FloorDiv rIDivG := by
  intro pins s σ H x y v u Q I r1 r2 h
  obtain ⟨i, j, e1, e2, hc, q⟩ := h
  subst e1; subst e2
  obtain ⟨t, rfl⟩ := r1
  obtain ⟨t', rfl⟩ := r2
  have h1 : (0 : Int) < j := hc.1
  have hp := PyProof.noPylong_of_log2 (x := i) hc.2
  have hj : ¬ (j == 0) = true := by
    intro z
    have := eq_of_beq z
    omega
  have e : i.fdiv j = i / j := Int.fdiv_eq_ediv_of_nonneg i (by omega)
  refine PySem.AutoIntOps.ifloordiv_1 hj (by rw [hp]; decide) ?_
  rw [e]
  exact ⟨.int _, H, I.tok _, ⟨_, rfl⟩, q⟩
section
variable {K : PySem.W.Frag}
theorem iadA {i j : Int} : OpD K (rIAddA K) (.int i) (.int j) (· = .int (i + j)) := od_inl iad
theorem icatA {xs ys : List D} (hz : xs.length + ys.length ≤ sizeLine) : OpD K (rIAddA K) (.tup xs) (.tup ys) (· = .tup (xs ++ ys)) := fun G H v w Q e r1 r2 k => by
  obtain ⟨a, as, rfl, ha, hr⟩ := r1.tup_inv
  obtain ⟨b, bs, rfl, hb, hs⟩ := r2.tup_inv
  have la := hr.length
  have lb := hs.length
  refine .inr ⟨a, b, as, bs, rfl, rfl, st_ex e ha, st_ex e hb, by omega, fun z => ?_, fun _ z => ?_, fun _ _ p hp => ?_⟩
  · subst z
    cases hr
    exact ret1 e (.tup hb hs) k
  · subst z
    cases hs
    exact ret1 e (.tup ha (by rw [List.append_nil]; exact hr)) k
  · have g := Gr.new (o := .tup (as ++ bs)) e hp
    exact k _ _ _ _ g (.tup (.inl (.inl upd_same)) ((hr.append hs).ex g.ex)) rfl
theorem imu {i j : Int} (h : CMul i j) : OpD K rIMulG (.int i) (.int j) (· = .int (i * j)) := od_intC (g := fun i j => .int (i * j)) (h := fun i j => .int (i * j)) h fun G => .int _
theorem idi {i j : Int} (h : CDivW i j) : OpD K rIDivG (.int i) (.int j) (· = .int (i / j)) := od_intC (g := fun i j => .int (i / j)) (h := fun i j => .int (i / j)) h fun G => .int _
/-! ### sums, membership -/
theorem RpL.sumI {G : Hp} {vs : List V} {ns : List Int} (r : RpL K G vs (ns.map D.int)) : vs = ns.map V.int := RpL.ints_inv r
theorem cd_sum {ns : List Int} : CbD K (rSum K) [.lst (ns.map D.int)] (· = .int ns.sum) := fun G H vs Q e r k => by
  cases r with
  | cons ra rr =>
    cases rr
    obtain ⟨a, as, rfl, ha, hr⟩ := ra.lst_inv
    have := RpL.ints_inv hr
    subst this
    exact ⟨a, ns, rfl, .inl (.inl (e.l ha)), ret1 e (.int _) k⟩
theorem od_inL {neg : Bool} {x : D} {v : V} {ns : List Int} (hx : x.v = some v) (fx : flatV v = true) : OpD K (rInG K neg) x (.lst (ns.map D.int)) (· = .bl (if neg then !inV v (ns.map V.int) else inV v (ns.map V.int))) := fun G H v' w Q e r1 r2 k => by
  obtain ⟨a, as, rfl, ha, hr⟩ := r2.lst_inv
  have ev : v' = v := r1.sc hx
  have := RpL.ints_inv hr
  subst this
  subst ev
  have fs : (ns.map V.int).all flatV = true := by
    rw [List.all_eq_true]
    intro y hy
    obtain ⟨n, _, rfl⟩ := List.mem_map.mp hy
    rfl
  exact .inl ⟨a, _, rfl, .inl (.inl (.inl (e.l ha))), fx, fs, ret1 e (.bl _) k⟩
theorem od_inTI {neg : Bool} {x : D} {v : V} {ns : List Int} (hx : x.v = some v) (fx : flatV v = true) : OpD K (rInG K neg) x (.tup (ns.map D.int)) (· = .bl (if neg then !inV v (ns.map V.int) else inV v (ns.map V.int))) := fun G H v' w Q e r1 r2 k => by
  obtain ⟨a, as, rfl, ha, hr⟩ := r2.tup_inv
  have ev : v' = v := r1.sc hx
  have := RpL.ints_inv hr
  subst this
  subst ev
  have fs : (ns.map V.int).all flatV = true := by
    rw [List.all_eq_true]
    intro y hy
    obtain ⟨n, _, rfl⟩ := List.mem_map.mp hy
    rfl
  exact .inl ⟨a, _, rfl, .inr (st_ex e ha), fx, fs, ret1 e (.bl _) k⟩
end

/-! ### tuple(xs) of a list of one's own; a, b = [], [] -/
section
variable {K : PySem.W.Frag} {E : L2.St → XK} {W : WX} {Δ : En} {X : Addr → Prop} {post : Out → Prop}
theorem ev_tup_own {i : Nat} {ds : List D} (hi : Δ[i]? = some (Sl.own ds)) : Ev K E (tCB (rTupO K) (tCons (tVar i) tNil)) Δ (· = .tup ds) X := fun q G0 H0 G H σ Q s k kx => by
  obtain ⟨p, vs, h1, h2, h3, h4, h5, h6⟩ := s.rs.own i ds hi
  refine ⟨_, h1, p, vs, rfl, .inl ⟨.inl (.inl h2), fun l hl => ?_⟩⟩
  have g := Gr.new (o := .tup vs) s.sub hl
  exact k _ _ _ _ g.any (.tup (.inl (.inl upd_same)) (h3.ex g.ex)) rfl
theorem xs_par00 {i j : Nat} (k : post (.nx ((Δ.set i (.own [])).set j (.own [])))) : Xs K W (tPar i j (tCons (tLst tNil) (tCons (tLst tNil) tNil))) Δ post := fun q G0 H0 G H σ T s k1 k2 k3 k4 k5 => by
  refine ⟨Nat.zero_le _, fun p hp => ⟨Nat.zero_le _, fun r hr => ⟨_, _, rfl, ?_⟩⟩⟩
  exact k1 _ _ G _ (Exx.refl _) ((s.newMut hp .nil).newMut hr .nil) k
end

/-! ### try .. except X: -/
def tTry (K : PySem.W.Frag) (C : Value) (th : TS) (Wout : WX) (tb : WX → TS) : TS := fun D σ H => tb (wOnly K C (fun _ _ _ => th) Wout D) D σ H
section
variable {K : PySem.W.Frag} {W : WX} {Δ : En} {post : Out → Prop} {tb : WX → TS} {th : TS} {CS : Addr}
def tryP (K : PySem.W.Frag) (W : WX) (CS : Addr) (th : TS) (post : Out → Prop) : Out → Prop
  | .ex C Δ' => ∃ b, PySem.W.exmOne K (.ref C) (.ref CS) = some b ∧ (b = true → Xs K W th Δ' post) ∧ (b = false → post (.ex C Δ'))
  | o => post o
theorem xs_try (hb : ∀ W', Xs K W' (tb W') Δ (tryP K W CS th post)) : Xs K W (tTry K (.ref CS) th W tb) Δ post := fun q G0 H0 G H σ T s k1 k2 k3 k4 k5 =>
  hb (wOnly K (.ref CS) (fun _ _ _ => th) W T) q G0 H0 G H σ T s k1 k2 k3 k4 fun C σ' Δ' G' H' e s' ⟨b, h1, h2, h3⟩ => ⟨b, h1, fun hb a _ =>
    h2 hb q G0 H0 G' H' σ' T s' (fun σ2 Δ2 G2 H2 e2 s2 p2 => k1 σ2 Δ2 G2 H2 (e.trans e2) s2 p2) k2 (fun σ2 Δ2 G2 H2 e2 s2 p2 => k3 σ2 Δ2 G2 H2 (e.trans e2) s2 p2) (fun σ2 Δ2 G2 H2 e2 s2 p2 => k4 σ2 Δ2 G2 H2 (e.trans e2) s2 p2)
      fun C σ2 Δ2 G2 H2 e2 s2 p2 => k5 C σ2 Δ2 G2 H2 (e.trans e2) s2 p2, fun hb => k5 C σ' Δ' G' H' e s' (h3 hb)⟩
end
section
variable {X : Cx} {x : Str} {CS : Addr} {body suite : List Stmt} {b₀ : Stmt} {np pos pos' : Pos} {tb : WX → TS} {th : TS} {W : WX}
theorem ps_tryT (hs : X.stack = X.env :: X.outer) (hf : X.env.frame = some X.env.locals) (hg : Gl X x) (hm : X.mg x = some (.ref CS)) (tk : L2.Takes X W)
    (hb : ∀ (W2 : WX) (pn : List (Addr × Obj)) (xe : Value → Shared → Prop), L2.Takes (X.tr pn xe) W2 → PassesOwn (model X.prog X.w) X.A X.env xe → PSs (X.tr pn xe) body (tb W2))
    (hsu : ∀ (a : Addr) (oe : Obj) (pn : List (Addr × Obj)), PSs (X.suite a ((a, oe) :: pn)) (b₀ :: suite) th) (hd : (x == ("__debug__" : Str)) = false := by decide) :
    PS X (.Try body [.ExceptHandler (some (.Name x np)) none (b₀ :: suite) pos'] [] [] pos) (tTry X.K (.ref CS) th W tb) :=
  ps_try_only hs hf ⟨hg, hd, .inl hm⟩ tk hb fun a oe cls d pn _ _ => hsu a oe pn
/-- .. whose suite raises -/
theorem ps_tryN (hs : X.stack = X.env :: X.outer) (hf : X.env.frame = some X.env.locals) (hg : Gl X x) (hm : X.mg x = some (.ref CS)) (hpa : ∀ hd : Option Value, PassesOwnAt (model X.prog X.w) (X.A.mark hd) X.A X.env X.xe) (tk : L2.Takes X W)
    (hb : ∀ (W2 : WX) (pn : List (Addr × Obj)) (xe : Value → Shared → Prop), L2N.Takes (X.tr pn xe) W2 → PassesOwn (model X.prog X.w) X.A X.env xe → PSs (X.tr pn xe) body (tb W2))
    (hsu : ∀ (a : Addr) (oe : Obj) (pn : List (Addr × Obj)), L2.Takes (L2H.suiteX X a ((a, oe) :: pn)) W → L2H.HotC (L2H.suiteX X a ((a, oe) :: pn)) → PSs (L2H.suiteX X a ((a, oe) :: pn)) (b₀ :: suite) th) (hd : (x == ("__debug__" : Str)) = false := by decide) :
    PS X (.Try body [.ExceptHandler (some (.Name x np)) none (b₀ :: suite) pos'] [] [] pos) (tTry X.K (.ref CS) th W tb) :=
  L2H.ps_try_onlyX hs hf ⟨hg, hd, .inl hm⟩ hpa tk (fun W2 pn xe t _ p => hb W2 pn xe t p) fun a oe cls d pn _ _ t h => hsu a oe pn t h
/-- X('m') in such a suite -/
theorem pmk5_own {C : Addr} {bmB : List Value} {B newId initId : String} {m : Str} {j : Nat} {p p2 : Pos} (F : ExcBaseFacts B newId initId bmB) (q : PySem.W.excIn X.K C bmB newId = true) (gC : X.mg x = some (.ref C)) (kC : PySem.W.keepIn X.K (.ref C) = true) (r : Raises X (.ref C)) (hg : Gl X x)
    (hdb : (x == ("__debug__" : Str)) = false := by decide) : L2H.PMk5 X (.Call (.Name x p) [.Constant (.str m) j p2] [] pos) (fun _ H Q => Q (.ref C) none H) := fun pins s σ H Q I h => by
  refine wpAny_Call_Name_kw (ld_glob I hg gC ?_ hdb)
  refine PySem.W.callWith_K (h₀ := X.base) I.ok.mod.kin kC (thn ((pa_cons pe_str pa_nil : PA X [.Constant (.str m) j p2] (tCons (tC (.str m)) tNil)).run pos pins s σ H (fun vs H1 => vs = [V.str m] ∧ H = H1) I ⟨rfl, rfl⟩) fun us s1 hh => ?_)
  obtain ⟨vs, H1, I1, r1, ev, eH⟩ := hh
  subst ev eH
  refine ⟨I1.kIn, ?_⟩
  match us, r1 with
  | [u], .cons ru .nil =>
    show wpAny _ _ (call (.ref C) [u]) _ _ _
    obtain ⟨_, _, _, _, _, _, _, _, _, _, _, _, _, _, _, _, _, hC, hN, hni, T⟩ := L2.exc_obj I1.kIn q
    exact wpAny_call_exc_subT F T hC hN hni (fun h' e hm => L2H.mk_of5 I1 hm r h (I1.hok.gone hm.new)) (by show 1 ≤ sizeLine; exact szl)
end
/-! ### defs whose exceptions have no context -/
theorem flz_mono {B : Heap} {l : List Env} {a : Addr} {Z Z' : Obj → Prop} {h : Heap} (f : ∀ o, Z o → Z' o) (x : HandSPX.FlyingZ B l a Z h) : HandSPX.FlyingZ B l a Z' h := by
  obtain ⟨k1, k2, k3, oe, vs, T, oT, ts, he, hz, r⟩ := x
  exact ⟨k1, k2, k3, oe, vs, T, oT, ts, he, f _ hz, r⟩
theorem fnN {P : Program} {w : World} {K : PySem.W.Frag} {mg : Str → Option Value} {base : Heap} {k : Nat} {f : Addr} {fd : FuncData} {ps : List Str} {sp : Sp} (F : FnOk P w K mg base (L2N.CX P w) k f fd ps sp) : FnOk P w K mg base (L2.CX P w) k f fd ps sp := by
  refine ⟨F.len, fun A outer s H args us vs Q E hr e0 hb r hsp => codeAny_mono (F.run A outer s H args us vs Q E hr e0 hb r hsp) fun res s' hq => ?_⟩
  cases res with
  | ok fl => cases fl <;> exact hq
  | error e =>
    obtain ⟨a, B, H', cls, d, rfl, fl, z⟩ := (show L2N.CX P w outer H s E e s' from hq)
    exact ⟨a, B, H', cls, d, rfl, flz_mono (fun o => L2N.Zn.zc) fl, z⟩
structure CalN (P : Program) (w : World) (K : PySem.W.Frag) (mg : Str → Option Value) (base : Heap) (k : Nat) (x : Str) (sp : Sp) : Prop where
  ex : ∃ (f : Addr) (fd : FuncData) (ps : List Str), FnOk P w K mg base (L2N.CX P w) k f fd ps sp ∧ mg x = some (.ref f) ∧ PySem.W.keepIn K (.ref f) = true ∧ Binds K fd ps []
theorem CalN.cal {P : Program} {w : World} {K : PySem.W.Frag} {mg : Str → Option Value} {base : Heap} {k : Nat} {x : Str} {sp : Sp} (c : CalN P w K mg base k x sp) : Cal P w K mg base k x sp := by
  obtain ⟨f, fd, ps, F, r⟩ := c.ex
  exact ⟨f, fd, ps, fnN F, r⟩
section
variable {X : Cx} {k j : Nat} {x : Str} {sp : Sp} {E : L2.St → XK} {p pos : Pos} {e : Expr} {es : List Expr} {t : TA}
theorem pe_calN (c : CalN X.prog X.w X.K X.mg X.base k x sp) (hr : Room j X.A) (hk : k ≤ j) (hg : Gl X x) (hx : ∀ σ, PassesAt (L2N.CX X.prog X.w) X σ (E σ)) (ha : PA X (e :: es) t)
    (hdb : (x == ("__debug__" : Str)) = false := by decide) (he : starEach (e :: es) X.env = (false, eval e X.env) :: starEach es X.env := by rfl) (hpl : (backTo pos (starEach es X.env)).any (·.1) = false := by rfl) :
    PE X (.Call (.Name x p) (e :: es) [] pos) (tCallS sp E t) := by
  obtain ⟨f, fd, ps, F, hm, kp, b⟩ := c.ex
  exact pe_callS F (hr.mono hk) hg hm kp b hx ha hdb he hpl
end
/-! ### the law's frame, with statements behind the loop -/
section
variable {P : Program} {w : World} {K : PySem.W.Frag} {mg : Str → Option Value} {base : Heap}
theorem sta_dice {n : Nat} {σ : L2.St} {H : Hp} {d : Addr} (hl : σ.length = n + 2) (h1 : σ[1]? = some (some (V.ref d))) (hd : DiceAt H d) (ht : TbOk H) : Sta K (some d) (fun _ => none) H (fun _ => none) H σ (Sl.no :: Sl.dice :: List.replicate n Sl.no) := by
  have no : ∀ {i : Nat} {x : Sl}, (Sl.no :: Sl.dice :: List.replicate n Sl.no)[i]? = some x → x = .no ∨ (i = 1 ∧ x = .dice) := fun {i x} h => by
    match i with
    | 0 => exact .inl (Option.some.inj h).symm
    | 1 => exact .inr ⟨rfl, (Option.some.inj h).symm⟩
    | i + 2 =>
      have h' : (List.replicate n Sl.no)[i]? = some x := by simpa using h
      rw [List.getElem?_replicate] at h'
      split at h'
      · exact .inl (Option.some.inj h').symm
      · cases h'
  refine Sta.start ⟨emp_sub, by simp [hl], fun b e => ?_, ht, fun i d' h => ?_, fun i bs h => ?_, fun i j bs cs p h => ?_, fun i h => ?_⟩
  · cases e
    exact ⟨fun _ e => (nomatch e), hd⟩
  · rcases no h with z | ⟨_, z⟩ <;> cases z
  · rcases no h with z | ⟨_, z⟩ <;> cases z
  · rcases no h with z | ⟨_, z⟩ <;> cases z
  · rcases no h with z | ⟨z1, z⟩
    · cases z
    · cases z
      subst z1
      exact ⟨d, rfl, h1⟩
def lPost (n : Nat) : Out → Prop
  | .nx Δ => Δ[1]? = some Sl.dice ∧ Δ.length = n + 2
  | .ct Δ => Δ[1]? = some Sl.dice ∧ Δ.length = n + 2
  | _ => False
theorem law_frame2 {W : WX} {N : List Str} {cs : List Addr} {tb tr : TS} {vs : List V} {H : Hp} {Q : VK} {E : XK} {n : Nat} (h : spLaw K cs vs H Q E) (hT : ∀ p ∈ Tt.tb, p.1 ∈ cs) (hN : N.length = n + 2)
    (hb : Xs K W tb (Sl.no :: Sl.dice :: List.replicate n Sl.no) (lPost n)) (hf : Xs K W tr (Sl.no :: Sl.dice :: List.replicate n Sl.no) (· = .rt (.bl true))) :
    (tSeq (tFor (iSeq K (tCallS (spRounds K) (WE W) (tCons (tVar 0) (tCons (tC (.int 1)) tNil)))) (gName 1) tb) tr) { nx := fun _ H' => Q .non H', rt := Q } (L2.start N vs) H := by
  obtain ⟨a, ns, rfl, hS, hcs, k⟩ := h
  have hT0 : TbOk H := fun p hp => .nil (hcs _ (hT p hp))
  have hlen : (L2.start N [V.ref a]).length = n + 2 := by simp [L2.start, hN]
  refine .inl ⟨.ref a, start_get rfl, a, ns, rfl, hS, hT0, fun l d H1 e1 tk1 hl hd => ⟨l, rfl, ⟨[.ref d], .inl (.inl hl)⟩, ?_⟩⟩
  have hld : ∀ {H' : Hp}, H' l = some (.lst [.ref d]) → DiceAt H' d → l ≠ d := fun h1 ⟨x, y, z, h2⟩ e => by
    rw [e, h2] at h1
    cases h1
  refine ⟨fun i m σ' H' => m = 1 - i ∧ i ≤ 1 ∧ H' l = some (.lst [.ref d]) ∧ DiceAt H' d ∧ TbOk H' ∧ σ'.length = n + 2 ∧ (i = 1 → σ'[1]? = some (some (.ref d))), ⟨1, rfl, by decide, hl, hd, tk1 hT0, hlen, fun z => (nomatch z)⟩, ?_⟩
  rintro i m σ' H' ⟨rfl, hi, h1, h2, h3, h5, h6⟩
  by_cases hi0 : i = 0
  · subst hi0
    refine .inr ⟨⟨[.ref d], .ref d, .inl (.inl h1), rfl⟩, fun σ2 H2 => H2 l = some (.lst [.ref d]) ∧ DiceAt H2 d ∧ TbOk H2 ∧ σ2.length = n + 2 ∧ σ2[1]? = some (some (.ref d)), fun σ2 H2 ⟨a1, a2, a3, a4, a5⟩ => ⟨0, by decide, rfl, Nat.le_refl _, a1, a2, a3, a4, fun _ => a5⟩, fun x H2 y => ?_⟩
    obtain ⟨e, y⟩ := y
    subst e
    have ex : V.ref d = x := by
      have := y [.ref d] (.inl (.inl h1))
      simpa using this
    subst ex
    have st : Sta K (some d) (fun _ => none) H2 (fun _ => none) H2 (σ'.set 1 (some (V.ref d))) (Sl.no :: Sl.dice :: List.replicate n Sl.no) := sta_dice (by simp [h5]) (List.getElem?_set_self (by omega)) h2 h3
    have fin : ∀ {σ2 : L2.St} {Δ2 : En} {G2 H3 : Hp}, Sta K (some d) (fun _ => none) H2 G2 H3 σ2 Δ2 → (Δ2[1]? = some Sl.dice ∧ Δ2.length = n + 2) → H3 l = some (.lst [.ref d]) ∧ DiceAt H3 d ∧ TbOk H3 ∧ σ2.length = n + 2 ∧ σ2[1]? = some (some (.ref d)) := fun s p => by
      refine ⟨s.gr.kl (fun z => ?_) h1, s.gr.dq d rfl h2, s.gr.tk h3, by rw [s.rs.len, p.2], ?_⟩
      · exact hld h1 h2 (Option.some.inj z).symm
      · obtain ⟨a', e, e2⟩ := s.rs.dice 1 p.1
        cases e
        exact e2
    exact hb _ _ _ _ _ _ _ st (fun _ _ _ _ _ s p => fin s p) (fun _ _ _ _ _ _ z => z.elim) (fun _ _ _ _ _ _ z => z.elim) (fun _ _ _ _ _ s p => fin s p) fun _ _ _ _ _ _ _ z => z.elim
  · have e : i = 1 := by omega
    subst e
    refine .inl ⟨⟨[.ref d], .inl (.inl h1), Nat.le_refl _⟩, ?_⟩
    refine hf _ _ _ _ _ _ _ (sta_dice (K := K) h5 (h6 rfl) h2 h3) (fun _ _ _ _ _ _ z => nomatch z) (fun v d' G' H2 g r z => ?_) (fun _ _ _ _ _ _ z => nomatch z) (fun _ _ _ _ _ _ z => nomatch z) fun _ _ _ _ _ _ _ z => nomatch z
    cases z
    cases r
    exact k H2
end
end Ts


/-! Promises by families; numbers as bytes (fixed, number_from, natural, natural_from, checksum). -/
namespace Ts
variable [Tt]
open PySem PySem.Spec PyProof.Rows L2

/-! ### a promise for each i -/
def spI (K : PySem.W.Frag) {ι : Type} (args : ι → List D) (pre : ι → Prop) (res : ι → Res) : Sp := fun vs H Q E => ∃ (i : ι) (G : Hp), Exx G H ∧ TbOk H ∧ RpL K G vs (args i) ∧ pre i ∧
  (∀ (v : V) (d : D) (G' H' : Hp), Gr none G H G' H' → Rp K G' v d → res i = .ret d → Q v H') ∧ (∀ (C : Addr) (G' H' : Hp), Gr none G H G' H' → res i = .exc C → E (.ref C) none H')
def fnR (r : Res) : Out → Prop
  | .nx _ => r = .ret .non
  | .rt d => r = .ret d
  | .ex C _ => r = .exc C
  | _ => False
section
variable {K : PySem.W.Frag} {E : L2.St → XK} {Δ : En} {R : D → Prop} {X : Addr → Prop} {ι : Type} {args : ι → List D} {pre : ι → Prop} {res : ι → Res} {tr : TA}
theorem ev_callI (i : ι) (h : Ea K E tr Δ (· = args i) X) (hp : pre i) (hr : ∀ d, res i = .ret d → R d) (hx : ∀ C, res i = .exc C → X C) : Ev K E (tCallS (spI K args pre res) E tr) Δ R X := fun q G0 H0 G H σ Q s k kx =>
  h q G0 H0 G H σ _ s (fun vs ds G1 H1 g1 r1 p1 => ⟨i, G1, g1.sub, (s.go g1).rs.tb, by rw [← p1]; exact r1, hp, fun v d G' H' g rd po => k v d G' H' (s.tr g1 g.any) rd (hr d po), fun C G' H' g po => kx C G' H' (s.tr g1 g.any) (hx C po)⟩) kx
theorem ev1_callI (i : ι) {d : D} (h : Ea K E tr Δ (· = args i) X) (hp : pre i) (hr : res i = .ret d) : Ev K E (tCallS (spI K args pre res) E tr) Δ (· = d) X :=
  ev_callI i h hp (fun e z => by rw [hr] at z; injection z with z; exact z.symm) fun C z => by rw [hr] at z; cases z
variable {P : Program} {w : World} {mg : Str → Option Value} {base : Heap} {x qual : Str} {params : Arguments} {body : List Stmt} {scope : Scope} {dvs : List V} {kws : List (Str × V)} {f : Addr} {fd : FuncData} {N ps : List Str} {k : Nat}
theorem fn_I {CX : CXT} {t : WX → TS} (F : FunD K x qual params body scope dvs kws f fd) (S : FnScope N ps scope) (hp : ∀ i, (args i).length = ps.length)
    (der : ∀ (cdv : Value) (A : Around) (outer : List Env) (s : Shared) (H : Hp) (E : XK), Room k (A.deeper (envOfC qual scope s.heap.objs.size f cdv)) → PSs (cxOf CX P w K mg base N qual scope f cdv A outer s H E) body (t (wDef E)))
    (h : ∀ (W : WX) i, pre i → Xs K W (t W) (argsE N (args i)) (fnR (res i))) : FnOk P w K mg base CX (k + 1) f fd ps (spI K args pre res) := by
  have hNl : ps.length ≤ N.length := by have := congrArg List.length S.pre; rw [List.length_take] at this; omega
  refine F.ok S (fun vs H Q E hsp => ?_) fun cdv A outer s H vs Q E hr hsp => ⟨t (wDef E), der cdv A outer s H E hr, ?_⟩
  · obtain ⟨i, G, _, _, r, _⟩ := hsp
    rw [r.length]; exact hp i
  · obtain ⟨i, G, e, tb, r, p, k1, k2⟩ := hsp
    have hl : (args i).length ≤ N.length := by rw [hp i]; exact hNl
    exact h (wDef E) i p none G H G H (L2.start N vs) _ (sta_args e tb r hl) (fun σ' Δ' G' H' e' s' q => k1 .non .non G' H' s'.gr .non q) (fun v d G' H' g rv q => k1 v d G' H' g rv q) (fun _ _ _ _ _ _ z => False.elim z) (fun _ _ _ _ _ _ z => False.elim z) fun C σ' Δ' G' H' e' s' q => k2 C G' H' s'.gr q
end
theorem then_nx {K : PySem.W.Frag} {W : WX} {u : TS} {Δ : En} {post : Out → Prop} (h : Xs K W u Δ post) : thenP K W u post (.nx Δ) := h
/-! plain lists -/
theorem get_ex {α : Type} {xs : List α} {i : Nat} (h : i < xs.length) : ∃ x, xs[i]? = some x := ⟨_, List.getElem?_eq_getElem h⟩
theorem drop_at {α : Type} {xs : List α} {i : Nat} {x : α} (h : xs[i]? = some x) : xs.drop i = x :: xs.drop (i + 1) := by
  obtain ⟨hl, e⟩ := List.getElem?_eq_some_iff.mp h
  rw [List.drop_eq_getElem_cons hl, e]
theorem take_at {α : Type} {xs : List α} {i : Nat} {x : α} (h : xs[i]? = some x) : xs.take (i + 1) = xs.take i ++ [x] := by rw [List.take_add_one, h]; rfl
theorem map_get {α β : Type} {f : α → β} {xs : List α} {i : Nat} {x : α} (h : xs[i]? = some x) : (xs.map f)[i]? = some (f x) := by rw [List.getElem?_map, h]; rfl
theorem of_map_get {α β : Type} {f : α → β} {xs : List α} {i : Nat} {y : β} (h : (xs.map f)[i]? = some y) : ∃ x, xs[i]? = some x ∧ y = f x := by
  rw [List.getElem?_map] at h
  cases e : xs[i]? with
  | none => rw [e] at h; cases h
  | some x =>
    rw [e] at h
    exact ⟨x, rfl, (Option.some.inj h).symm⟩
def bD (bs : List Int) : D := .tup (bs.map D.int)
theorem bD_app {a b : List Int} : D.tup (a.map D.int ++ b.map D.int) = bD (a ++ b) := by rw [← List.map_append]; rfl
theorem bD_okN {n : Nat} (a : List Int) : okN (n + 1) (bD a) = true := by
  show (a.map D.int).all (okN n) = true
  rw [List.all_eq_true]
  intro d hd
  obtain ⟨x, _, rfl⟩ := List.mem_map.mp hd
  cases n <;> rfl
theorem bD_ok (a : List Int) : (bD a).ok = true := okN_ok (n := 1) (bD_okN (n := 0) a)
/-! ### the functions -/
/-- the m lowest bytes, the lowest first -/
def low : Nat → Int → List Int
  | 0, _ => []
  | m + 1, n => n % 256 :: low m (n / 256)
def shr : Nat → Int → Int
  | 0, n => n
  | j + 1, n => shr j n / 256
theorem shr_s : ∀ (j : Nat) (n : Int), shr j (n / 256) = shr (j + 1) n
  | 0, _ => rfl
  | j + 1, n => by
    show shr j (n / 256) / 256 = shr (j + 1) n / 256
    rw [shr_s j n]
theorem low_s : ∀ (j : Nat) (n : Int), low (j + 1) n = low j n ++ [shr j n % 256]
  | 0, _ => rfl
  | j + 1, n => by
    show n % 256 :: low (j + 1) (n / 256) = n % 256 :: low j (n / 256) ++ [shr (j + 1) n % 256]
    rw [low_s j (n / 256), shr_s]
    rfl
theorem low_len : ∀ (m : Nat) (n : Int), (low m n).length = m
  | 0, _ => rfl
  | m + 1, n => by simp [low, low_len m]
def fixedI (n : Int) (m : Nat) : List Int := (low m n).reverse
theorem fixedI_len (n : Int) (m : Nat) : (fixedI n m).length = m := by simp [fixedI, low_len]
def numI (bs : List Int) : Int := bs.foldl (fun f x => f * 256 + x) 0
def csP : Int × Int → Int → Int × Int := fun p x => ((p.1 + x) % 65521, (p.2 + (p.1 + x) % 65521) % 65521)
def cs2 (bs : List Int) : Int × Int := bs.foldl csP (1, 0)
def csumI (bs : List Int) : List Int := fixedI ((cs2 bs).2 * 65536 + (cs2 bs).1) 4
def natI (n : Nat) : List Int := if n < 128 then [(n : Int)] else (128 + (n : Int) % 128) :: natI (n / 128)
theorem natI_len : ∀ (k n : Nat), n < 128 ^ (k + 1) → (natI n).length ≤ k + 1
  | 0, n, h => by
    rw [natI, if_pos (by simpa using h)]
    exact Nat.le_refl _
  | k + 1, n, h => by
    rw [natI]
    split
    · simp
    · have := natI_len k (n / 128) (by
        rw [Nat.pow_succ] at h
        exact Nat.div_lt_of_lt_mul (by rw [Nat.mul_comm]; exact h))
      simp only [List.length_cons]
      omega
/-- what natural_from finds: the number, the place behind it -/
def nf : List Int → Int → Int → Nat → Option (Int × Nat)
  | [], _, _, _ => none
  | x :: xs, f, w, k => if x < 128 then (if x = 0 ∧ 128 < w * 128 then none else some (f + x % 128 * w, k + 1)) else nf xs (f + x % 128 * w) (w * 128) (k + 1)
section
variable {K : PySem.W.Frag} {W : WX}
def t_fixed (K : PySem.W.Frag) (W : WX) : TS :=
  (tSeq (tAsg (tLst tNil) (gName 2))
  (tSeq (tFor (iRng1 (tCons (tVar 1) tNil)) (gName 3) (tSeq (tDrop (tBM K "list" rAppend (tVar 2) (tCons (tOp rModG (tVar 0) (tC (.int 256))) tNil)))
  (tAug 0 (tC (.int 256)) rIDivG)))
  (tRet (tCB (rTupO K) (tCons (tRevL K (tVar 2)) tNil)))))
abbrev fxA : Int × Nat → List D := fun i => [.int i.1, .int i.2]
abbrev spFx (K : PySem.W.Frag) : Sp := spI K fxA (fun i => i.2 ≤ 1000) fun i => .ret (bD (fixedI i.1 i.2))
theorem fixed_xs (i : Int × Nat) (h : i.2 ≤ 1000) : Xs K W (t_fixed K W) (argsE ["number", "many", "found", "step"] (fxA i)) (fnR (.ret (bD (fixedI i.1 i.2)))) := by
  obtain ⟨n, m⟩ := i
  replace h : m ≤ 1000 := h
  refine xs_seq (xs_new0 ?_)
  refine then_nx ?_
  refine xs_seq (xs1_for (items := rngD 0 1 m) (ew_rng1 ((ev_var (d := .int m) rfl).imp fun d e => ⟨m, e, by omega, by omega, by rw [Int.toNat_natCast]⟩)) (fun j Δ' => ∃ z, Δ' = [.dat (.int (shr j n)), .dat (.int m), .own ((low j n).map D.int), z]) ⟨_, rfl⟩ ?_ ?_)
  · rintro j d Δ' hd ⟨z, rfl⟩
    obtain ⟨hj, rfl⟩ := rngD_of hd
    refine ⟨[3], _, tg_name, ?_⟩
    refine xs_seq (xs1_app rfl (szlt (by rw [List.length_map, low_len]; omega)) (ev1_op (ev_var (d := .int (shr j n)) rfl) ev_int (od_mod (by decide))) ?_)
    refine then_nx ?_
    refine xs1_aug (x := .int (shr j n)) rfl ev_int (idi (cdivw (by decide) (by decide))) ?_
    refine ⟨.dat (.int (0 + (j : Nat) * 1)), ?_⟩
    rw [low_s, List.map_append]
    rfl
  · rintro Δ' ⟨z, rfl⟩
    rw [rngD_len]
    refine then_nx ?_
    refine xs_freeze (i := 2) rfl (xs1_ret (ev1_cb (ea1_cons (ev1_revL (ev_var (d := .lst ((low m n).map D.int)) rfl)) ea_nil) cd_tupL) ?_)
    show _ = _
    rw [← List.map_reverse]
    rfl
def t_number_from (K : PySem.W.Frag) (W : WX) : TS :=
  (tSeq (tAsg (tC (.int 0)) (gName 1))
  (tSeq (tFor (iSeq K (tVar 0)) (gName 2) (tAsg (tOp (rAddG K) (tOp (rMulG K) (tVar 1) (tC (.int 256))) (tVar 2)) (gName 1)))
  (tRet (tVar 1))))
abbrev spNu (K : PySem.W.Frag) : Sp := spI K (fun bs : List Int => [bD bs]) (fun _ => True) fun bs => .ret (.int (numI bs))
theorem number_xs (bs : List Int) : Xs K W (t_number_from K W) (argsE ["data", "found", "one"] [bD bs]) (fnR (.ret (.int (numI bs)))) := by
  refine xs_seq (xs1_asg ev_int ?_)
  refine then_nx ?_
  refine xs_seq (xs1_for (items := bs.map D.int) (ew_inr (ew_inl (ew_tup ((ev_var (d := bD bs) rfl).imp fun d e => ⟨_, e, rfl⟩)))) (fun i Δ' => ∃ z, Δ' = [.dat (bD bs), .dat (.int (numI (bs.take i))), z]) ⟨_, rfl⟩ ?_ ?_)
  · rintro i d Δ' hd ⟨z, rfl⟩
    obtain ⟨x, hx, rfl⟩ := of_map_get hd
    refine ⟨[2], _, tg_name, ?_⟩
    refine xs1_asg (ev1_op (ev1_op (ev_var (d := .int (numI (bs.take i))) rfl) ev_int (od_mul (.inr ⟨by decide, by decide⟩))) (ev_var (d := .int x) rfl) od_add) ⟨.dat (.int x), ?_⟩
    rw [take_at hx]
    unfold numI
    rw [List.foldl_append]
    rfl
  · rintro Δ' ⟨z, rfl⟩
    refine xs1_ret (ev_var rfl) ?_
    rw [List.length_map, List.take_length]
    rfl
def t_checksum (K : PySem.W.Frag) (W : WX) (sp_fixed : Sp) : TS :=
  (tSeq (tAsg (tTup (tCons (tC (.int 1)) (tCons (tC (.int 0)) tNil))) (gTup K 2 (gCons (gName 1) (gCons (gName 2) gNil))))
  (tSeq (tFor (iSeq K (tVar 0)) (gName 3) (tSeq (tAsg (tOp rModG (tOp (rAddG K) (tVar 1) (tVar 3)) (tC (.int 65521))) (gName 1))
  (tAsg (tOp rModG (tOp (rAddG K) (tVar 2) (tVar 1)) (tC (.int 65521))) (gName 2))))
  (tRet (tCallS sp_fixed (WE W) (tCons (tOp (rAddG K) (tOp (rMulG K) (tVar 2) (tC (.int 65536))) (tVar 1)) (tCons (tC (.int 4)) tNil))))))
abbrev spCs (K : PySem.W.Frag) : Sp := spI K (fun bs : List Int => [bD bs]) (fun _ => True) fun bs => .ret (bD (csumI bs))
theorem cs2_s {bs : List Int} {i : Nat} {x : Int} (h : bs[i]? = some x) : cs2 (bs.take (i + 1)) = csP (cs2 (bs.take i)) x := by
  rw [take_at h]
  unfold cs2
  rw [List.foldl_append]
  rfl
/-- the two sums, over three ways to write them -/
theorem sums_loop {bs : List Int} {post : Out → Prop} {Δ : En} {u : TS} {n : Nat} (e : Δ = [.dat (bD bs), .dat (.int 1), .dat (.int 0)] ++ List.replicate n .no) (hn : 0 < n)
    (hk : ∀ z, Xs K W u ([.dat (bD bs), .dat (.int (cs2 bs).1), .dat (.int (cs2 bs).2), z] ++ List.replicate (n - 1) .no) post) :
    Xs K W (tSeq (tFor (iSeq K (tVar 0)) (gName 3) (tSeq (tAsg (tOp rModG (tOp (rAddG K) (tVar 1) (tVar 3)) (tC (.int 65521))) (gName 1)) (tAsg (tOp rModG (tOp (rAddG K) (tVar 2) (tVar 1)) (tC (.int 65521))) (gName 2)))) u) Δ post := by
  subst e
  obtain ⟨n, rfl⟩ : ∃ k, n = k + 1 := ⟨n - 1, by omega⟩
  refine xs_seq (xs1_for (items := bs.map D.int) (ew_inr (ew_inl (ew_tup ((ev_var (d := bD bs) rfl).imp fun d e => ⟨_, e, rfl⟩)))) (fun i Δ' => ∃ z, Δ' = [.dat (bD bs), .dat (.int (cs2 (bs.take i)).1), .dat (.int (cs2 (bs.take i)).2), z] ++ List.replicate n .no) ⟨.no, rfl⟩ ?_ ?_)
  · rintro i d Δ' hd ⟨z, rfl⟩
    obtain ⟨x, hx, rfl⟩ := of_map_get hd
    refine ⟨[3], _, tg_name, ?_⟩
    refine xs_seq (xs1_asg (ev1_op (ev1_op (ev_var (d := .int (cs2 (bs.take i)).1) rfl) (ev_var (d := .int x) rfl) od_add) ev_int (od_mod (by decide))) ?_)
    refine then_nx ?_
    refine xs1_asg (ev1_op (ev1_op (ev_var (d := .int (cs2 (bs.take i)).2) rfl) (ev_var (d := .int (((cs2 (bs.take i)).1 + x) % 65521)) rfl) od_add) ev_int (od_mod (by decide))) ⟨.dat (.int x), ?_⟩
    rw [cs2_s hx]
    rfl
  · rintro Δ' ⟨z, rfl⟩
    rw [List.length_map, List.take_length]
    exact hk z
theorem sums_loopI {bs : List Int} {post : Out → Prop} {Δ : En} {u : TS} {n : Nat} (e : Δ = [.dat (bD bs), .dat (.int 1), .dat (.int 0)] ++ List.replicate n .no) (hn : 0 < n)
    (hk : ∀ z, Xs K W u ([.dat (bD bs), .dat (.int (cs2 bs).1), .dat (.int (cs2 bs).2), z] ++ List.replicate (n - 1) .no) post) :
    Xs K W (tSeq (tFor (iSeq K (tVar 0)) (gName 3) (tSeq (tAsg (tOp rModG (tCB rInt1 (tCons (tOp (rAddG K) (tVar 1) (tVar 3)) tNil)) (tC (.int 65521))) (gName 1)) (tAsg (tOp rModG (tCB rInt1 (tCons (tOp (rAddG K) (tVar 2) (tVar 1)) tNil)) (tC (.int 65521))) (gName 2)))) u) Δ post := by
  subst e
  obtain ⟨n, rfl⟩ : ∃ k, n = k + 1 := ⟨n - 1, by omega⟩
  refine xs_seq (xs1_for (items := bs.map D.int) (ew_inr (ew_inl (ew_tup ((ev_var (d := bD bs) rfl).imp fun d e => ⟨_, e, rfl⟩)))) (fun i Δ' => ∃ z, Δ' = [.dat (bD bs), .dat (.int (cs2 (bs.take i)).1), .dat (.int (cs2 (bs.take i)).2), z] ++ List.replicate n .no) ⟨.no, rfl⟩ ?_ ?_)
  · rintro i d Δ' hd ⟨z, rfl⟩
    obtain ⟨x, hx, rfl⟩ := of_map_get hd
    refine ⟨[3], _, tg_name, ?_⟩
    refine xs_seq (xs1_asg (ev1_op (ev1_cb (ea1_cons (ev1_op (ev_var (d := .int (cs2 (bs.take i)).1) rfl) (ev_var (d := .int x) rfl) od_add) ea_nil) cd_intI) ev_int (od_mod (by decide))) ?_)
    refine then_nx ?_
    refine xs1_asg (ev1_op (ev1_cb (ea1_cons (ev1_op (ev_var (d := .int (cs2 (bs.take i)).2) rfl) (ev_var (d := .int (((cs2 (bs.take i)).1 + x) % 65521)) rfl) od_add) ea_nil) cd_intI) ev_int (od_mod (by decide))) ⟨.dat (.int x), ?_⟩
    rw [cs2_s hx]
    rfl
  · rintro Δ' ⟨z, rfl⟩
    rw [List.length_map, List.take_length]
    exact hk z
theorem checksum_xs (bs : List Int) : Xs K W (t_checksum K W (spFx K)) (argsE ["data", "first", "second", "one"] [bD bs]) (fnR (.ret (bD (csumI bs)))) := by
  refine xs_seq (xs1_asgT (ev1_tup (ea1_cons ev_int (ea1_cons ev_int ea_nil))) tg2 ?_)
  refine then_nx (sums_loop (n := 1) rfl (by decide) fun z => ?_)
  exact xs1_ret (ev1_callI ((cs2 bs).2 * 65536 + (cs2 bs).1, 4) (ea1_cons (ev1_op (ev1_op (ev_var rfl) ev_int (od_mul (.inr ⟨by decide, by decide⟩))) (ev_var rfl) od_add) (ea1_cons ev_int ea_nil)) (show (4 : Nat) ≤ 1000 by decide) rfl) rfl
def t_natural (K : PySem.W.Frag) (W : WX) : TS :=
  (tSeq (tAsg (tLst tNil) (gName 1))
  (tSeq (tWhile (tTest (tOp rGeG (tVar 0) (tC (.int 128)))) (tSeq (tDrop (tBM K "list" rAppend (tVar 1) (tCons (tOp (rAddG K) (tC (.int 128)) (tOp rModG (tVar 0) (tC (.int 128)))) tNil)))
  (tAug 0 (tC (.int 128)) rIDivG)))
  (tRet (tOp (rAddG K) (tCB (rTupO K) (tCons (tVar 1) tNil)) (tTup (tCons (tVar 0) tNil))))))
abbrev spNa (K : PySem.W.Frag) : Sp := spI K (fun n : Nat => [.int n]) (fun n => n < 2 ^ 64) fun n => .ret (bD (natI n))
theorem natI_le {n : Nat} (h : n < 2 ^ 64) : (natI n).length ≤ 10 := natI_len 9 n (Nat.lt_of_lt_of_le h (by decide))
theorem natural_xs (n : Nat) (h : n < 2 ^ 64) : Xs K W (t_natural K W) (argsE ["number", "found"] [.int n]) (fnR (.ret (bD (natI n)))) := by
  refine xs_seq (xs_new0 ?_)
  refine then_nx ?_
  refine xs_seq (xs_while (fun m Δ' => ∃ acc : List Int, Δ' = [.dat (.int m), .own (acc.map D.int)] ∧ natI n = acc ++ natI m) n ⟨[], rfl, rfl⟩ ?_)
  rintro m Δ' ⟨acc, rfl, hm⟩
  have hl : acc.length ≤ 10 := by
    have := natI_le h
    rw [hm, List.length_append] at this
    omega
  refine ⟨(· = decide ((128 : Int) ≤ m)), fun _ => False, et1_val (ev1_op (ev_var (d := .int m) rfl) ev_int od_ge), fun _ z => z.elim, fun hb => ?_, fun hb => ?_⟩
  · have hc : 128 ≤ m := by have := of_decide_eq_true hb.symm; omega
    refine xs_seq (xs1_app rfl (szlt (by rw [List.length_map]; omega)) (ev1_op ev_int (ev1_op (ev_var (d := .int m) rfl) ev_int (od_mod (by decide))) od_add) ?_)
    refine then_nx ?_
    refine xs1_aug (x := .int m) rfl ev_int (idi (cdivw (by decide) (by decide))) ?_
    refine ⟨m / 128, by omega, acc ++ [128 + (m : Int) % 128], ?_, ?_⟩
    · rw [List.map_append, Int.natCast_ediv]
      rfl
    · rw [hm, natI, if_neg (by omega)]
      simp
  · have hc : m < 128 := by have := of_decide_eq_false hb.symm; omega
    refine then_nx ?_
    refine xs1_ret (ev1_op (ev_tup_own (ds := acc.map D.int) rfl) (ev1_tup (ea1_cons (ev_var (d := .int m) rfl) ea_nil)) (od_catT (szl (by rw [List.length_map]; simp; omega)))) ?_
    show _ = _
    rw [hm, natI, if_pos hc, bD, List.map_append]
    rfl
def t_natural_from (K : PySem.W.Frag) (W : WX) : TS :=
  (tSeq (tAsg (tTup (tCons (tC (.int 0)) (tCons (tC (.int 1)) tNil))) (gTup K 2 (gCons (gName 2) (gCons (gName 3) gNil))))
  (tWhile (tB (tC (.bl true))) (tSeq (tIfS (tTest (tOp rGeG (tVar 1) (tCB (rLenC K) (tCons (tVar 0) tNil)))) (fun _ σ H => W (.ref (He.ga K "RecordFault")) none σ H) tNext)
  (tSeq (tAsg (tOp (rIx K) (tVar 0) (tVar 1)) (gName 4))
  (tSeq (tAug 1 (tC (.int 1)) (rIAddA K))
  (tSeq (tAug 2 (tOp (rMulG K) (tOp rModG (tVar 4) (tC (.int 128))) (tVar 3)) (rIAddA K))
  (tSeq (tAug 3 (tC (.int 128)) rIMulG)
  (tIfS (tTest (tOp (rLtG K) (tVar 4) (tC (.int 128)))) (tSeq (tIfS (tAnd (tTest (tOp (rEqG K) (tVar 4) (tC (.int 0)))) (tTest (tOp rGtG (tVar 3) (tC (.int 128))))) (fun _ σ H => W (.ref (He.ga K "RecordFault")) none σ H) tNext)
  (tRet (tTup (tCons (tVar 2) (tCons (tVar 1) tNil))))) tNext))))))))
abbrev nfA : List Int × Nat → List D := fun i => [bD i.1, .int i.2]
def nfD (p : Int × Nat) : D := .tup [.int p.1, .int p.2]
def nfR (C : Addr) (i : List Int × Nat) : Res := match nf (i.1.drop i.2) 0 1 i.2 with
  | some p => .ret (nfD p)
  | none => .exc C
abbrev spNf (K : PySem.W.Frag) : Sp := spI K nfA (fun i => i.2 ≤ i.1.length) (nfR (He.ga K "RecordFault"))
theorem small128 (x : Int) : -(2 ^ 64) < x % 128 ∧ x % 128 < 2 ^ 64 := by
  have h1 := Int.emod_nonneg x (show (128 : Int) ≠ 0 by decide)
  have h2 := Int.emod_lt_of_pos x (show (0 : Int) < 128 by decide)
  omega
theorem nfrom_xs (i : List Int × Nat) (h : i.2 ≤ i.1.length) : Xs K W (t_natural_from K W) (argsE ["data", "place", "found", "weight", "one"] (nfA i)) (fnR (nfR (He.ga K "RecordFault") i)) := by
  obtain ⟨bs, p0⟩ := i
  replace h : p0 ≤ bs.length := h
  refine xs_seq (xs1_asgT (ev1_tup (ea1_cons ev_int (ea1_cons ev_int ea_nil))) tg2 ?_)
  refine then_nx ?_
  refine xs_while (fun m Δ' => ∃ (f w : Int) (p : Nat) (o : Sl), Δ' = [.dat (bD bs), .dat (.int p), .dat (.int f), .dat (.int w), o] ∧ nf (bs.drop p0) 0 1 p0 = nf (bs.drop p) f w p ∧ p ≤ bs.length ∧ m = bs.length - p) _ ⟨0, 1, p0, _, rfl, rfl, h, rfl⟩ ?_
  rintro m Δ' ⟨f, w, p, o, rfl, hn, hp, rfl⟩
  refine ⟨(· = true), fun _ => False, et1_B ev_bl, fun _ z => z.elim, fun _ => ?_, fun z => nomatch z⟩
  have hlen : ∀ {Δ : En}, Δ[0]? = some (Sl.dat (bD bs)) → Ev K (WE W) (tCB (rLenC K) (tCons (tVar 0) tNil)) Δ (· = .int (bs.length : Nat)) fun _ => False := fun h => ev_is (ev1_cb (ea1_cons (ev_var h) ea_nil) cd_lenT) (by rw [List.length_map])
  refine xs_seq (xs1_if (et1_val (ev1_op (ev_var (d := .int p) rfl) (hlen rfl) od_ge)) (fun hb => ?_) fun hb => xs_next ?_)
  · have hb' : bs.length ≤ p := by have := of_decide_eq_true hb; omega
    refine xs_raise ?_
    show nfR _ _ = _
    unfold nfR
    show (match nf (bs.drop p0) 0 1 p0 with | some p => _ | none => _) = _
    rw [hn, List.drop_of_length_le hb']
    rfl
  · have hb' : p < bs.length := by have := of_decide_eq_false hb; omega
    obtain ⟨x, hx⟩ := get_ex hb'
    rw [drop_at hx] at hn
    refine then_nx ?_
    refine xs_seq (xs1_asg (ev1_op (ev_var (d := bD bs) rfl) (ev_var (d := .int p) rfl) (od_ixT (atI_nat (map_get hx)))) ?_)
    refine then_nx (xs_seq (xs1_aug (x := .int p) rfl ev_int iadA ?_))
    refine then_nx (xs_seq (xs1_aug (x := .int f) rfl (ev1_op (ev1_op (ev_var (d := .int x) rfl) ev_int (od_mod (by decide))) (ev_var (d := .int w) rfl) (od_mul (.inl (small128 x)))) iadA ?_))
    refine then_nx (xs_seq (xs1_aug (x := .int w) rfl ev_int (imu (.inr ⟨by decide, by decide⟩)) ?_))
    refine then_nx ?_
    refine xs1_if (et1_val (ev1_op (ev_var (d := .int x) rfl) ev_int od_lt)) (fun hc => ?_) fun hc => xs_next ?_
    · have hx1 : x < 128 := of_decide_eq_true hc
      have hn2 : nf (bs.drop p0) 0 1 p0 = if x = 0 ∧ 128 < w * 128 then none else some (f + x % 128 * w, p + 1) := by rw [hn, nf, if_pos hx1]
      refine xs_seq (xs1_if (et1_and (et1_val (ev1_op (ev_var (d := .int x) rfl) ev_int od_eqI)) fun _ => et1_val (ev1_op (ev_var (d := .int (w * 128)) rfl) ev_int od_gt)) (fun hb2 => ?_) fun hb2 => xs_next ?_)
      · obtain ⟨b1, b2⟩ := Bool.and_eq_true_iff.mp hb2
        refine xs_raise ?_
        show nfR _ _ = _
        unfold nfR
        show (match nf (bs.drop p0) 0 1 p0 with | some p => _ | none => _) = _
        rw [hn2, if_pos ⟨of_decide_eq_true b1, of_decide_eq_true b2⟩]
      · have hb3 : ¬ (x = 0 ∧ 128 < w * 128) := fun ⟨a, b⟩ => by
          rw [decide_eq_true a, decide_eq_true b] at hb2
          cases hb2
        refine then_nx ?_
        refine xs1_ret (ev1_tup (ea1_cons (ev_var (d := .int (f + x % 128 * w)) rfl) (ea1_cons (ev_var (d := .int (p + 1)) rfl) ea_nil))) ?_
        show nfR _ _ = _
        unfold nfR
        show (match nf (bs.drop p0) 0 1 p0 with | some p => _ | none => _) = _
        rw [hn2, if_neg hb3]
        rfl
    · have hx1 : ¬ x < 128 := of_decide_eq_false hc
      refine ⟨bs.length - (p + 1), by omega, _, _, p + 1, _, rfl, ?_, hb', rfl⟩
      rw [hn, nf, if_neg hx1]
end
end Ts


/-! Rolls of the dice; rules for pairs with a list of one's own; a small tactic for expressions whose values are known. -/
namespace Ts
variable [Tt]
open PySem PySem.Spec PyProof.Rows L2
section
variable {K : PySem.W.Frag} {E : L2.St → XK} {W : WX} {Δ : En} {X : Addr → Prop} {ta te tf : TE} {post : Out → Prop}
theorem ev_roll {i : Nat} {n : Int} (hi : Δ[i]? = some Sl.dice) (h : Ev K E ta Δ (· = .int n) X) (h0 : 0 < n := by decide) (h1 : n < 2 ^ 64 := by decide) : Ev K E (tCallS (spRoll K) E (tCons (tVar i) (tCons ta tNil))) Δ (fun d => ∃ i : Int, d = .int i ∧ 0 ≤ i ∧ i < n) X :=
  ev_callq hi (ea1_cons h ea_nil) (fun ds e => ⟨n, e, h0, h1⟩) (fun ds d e ⟨n', i, e', r, a, b⟩ => by
    rw [e] at e'
    injection e' with e'
    injection e' with e'
    subst e'
    injection r with r
    exact ⟨i, r, a, b⟩) fun ds C e ⟨_, _, _, z, _⟩ => nomatch z
/-- a, b = (x, [..]), the list one's own -/
theorem xs_unp {i j : Nat} {tr : TA} {d : D} {ds : List D} (hij : j ≠ i) (h : Ev K (WE W) te Δ (· = d) fun _ => False) (h2 : Ea K (WE W) tr Δ (· = ds) fun _ => False) (hl : ds.length ≤ 1000000) (k : post (.nx ((Δ.set j (.own ds)).set i (.dat d)))) :
    Xs K W (tAsg (tTup (tCons te (tCons (tLst tr) tNil))) (gTup K 2 (gCons (gName i) (gCons (gName j) gNil)))) Δ post := fun q G0 H0 G H σ Te s k1 k2 k3 k4 k5 => by
  refine h q G0 H0 G H σ _ s (fun v d1 G1 H1 g1 r1 p1 => ?_) fun _ _ _ _ z => z.elim
  refine h2 q G0 H0 G1 H1 σ _ (s.go g1) (fun vs ds1 G2 H2 g2 r2 p2 => ?_) fun _ _ _ _ z => z.elim
  subst p1; subst p2
  have s2 := s.go (s.tr g1 g2)
  refine ⟨by rw [r2.length]; exact szl hl, fun p hp => ⟨szl (by simp), fun u hu => ?_⟩⟩
  have s3 := s2.newMut (i := j) hp r2
  have gj : Gr none G2 (upd H2 p (.lst vs)) G2 (upd (upd H2 p (.lst vs)) u (.tup [v, .ref p])) :=
    ⟨Exx.refl G2, fun _ _ e => .inl e, fun a o e nt => by rw [upd_ne (ne_of_none (s3.sub a o e nt) hu)]; exact s3.sub a o e nt, fun a o _ e _ => by rw [upd_ne (ne_of_none e hu)]; exact e, Tbd.new hu, fun _ z => nomatch z⟩
  have s4 := (s3.go gj.any).set (i := i) (r1.ex g2.ex)
  refine ⟨u, [v, .ref p], rfl, .inl (.inl upd_same), rfl, _, _, rfl, _, _, rfl, rfl, ?_⟩
  have e : (σ.set i (some v)).set j (some (V.ref p)) = (σ.set j (some (V.ref p))).set i (some v) := (List.set_comm _ _ hij).symm
  rw [e]
  exact k1 _ _ G2 _ (s.tr g1 g2).ex s4 k
/-- a, b, c = x, [], y, the list one's own -/
theorem xs1_par3m {i j l : Nat} (hij : i ≠ j) {d e : D} (h : Ev K (WE W) te Δ (· = d) fun _ => False) (h' : Ev K (WE W) tf Δ (· = e) fun _ => False) (k : post (.nx (((Δ.set j (.own [])).set i (.dat d)).set l (.dat e)))) :
    Xs K W (tPar3 i j l (tCons te (tCons (tLst tNil) (tCons tf tNil)))) Δ post := fun q G0 H0 G H σ T s k1 k2 k3 k4 k5 => by
  refine h q G0 H0 G H σ _ s (fun v d' G1 H1 g1 r1 p1 => ?_) fun _ _ _ _ z => z.elim
  have s1 := s.go g1
  refine ⟨Nat.zero_le _, fun p hp => ?_⟩
  have g0 : Gr none G1 H1 G1 (upd H1 p (.lst [])) :=
    ⟨Exx.refl G1, fun _ _ e => .inl e, fun a o e nt => by rw [upd_ne (ne_of_none (s1.sub a o e nt) hp)]; exact s1.sub a o e nt, fun a o _ e _ => by rw [upd_ne (ne_of_none e hp)]; exact e, Tbd.new hp, fun _ z => nomatch z⟩
  have s0 := s1.go g0.any
  have hGp : Nt G1 p := fun o c => Classical.byContradiction fun n => by
    rw [s1.sub p o c (fun ps z => n ⟨ps, z⟩)] at hp; cases hp
  have hH0 : Nt H0 p := s1.gr.live s1.hq (.of hp)
  have hqp : q ≠ some p := fun c => by
    obtain ⟨x, y, z, e⟩ := s1.dq p c
    rw [hp] at e; cases e
  refine h' q G0 H0 G1 _ σ _ s0 (fun u e' G2 H2 g2 r2 p2 => ?_) fun _ _ _ _ z => z.elim
  subst p1; subst p2
  have s2 := s0.go g2
  have hp2 : H2 p = some (.lst []) := g2.kl hqp upd_same
  have hG2 : Nt G2 p := g2.un hGp upd_same
  have other : ∀ (l : Nat) (as : List D), Δ[l]? = some (Sl.own as) → σ[l]? ≠ some (some (V.ref p)) := fun l as e z => by
    obtain ⟨p3, vs3, a1, a2, _⟩ := s1.rs.own l as e
    rw [a1] at z
    cases z
    rw [hp] at a2; cases a2
  refine ⟨_, _, _, rfl, ?_⟩
  have e1 : ((σ.set i (some v)).set j (some (V.ref p))).set l (some u) = ((σ.set j (some (V.ref p))).set i (some v)).set l (some u) := by rw [List.set_comm _ _ hij]
  rw [e1]
  exact k1 _ _ G2 H2 (g1.ex.trans g2.ex) (((s2.ownAt (i := j) hp2 .nil hG2 hH0 hqp other).set (r1.ex g2.ex)).set r2) k
/-- the negative of an int -/
theorem ev_neg {i : Int} (h : Ev K E te Δ (· = .int i) X) : Ev K E (tUn (rU fun i => .int (-i)) te) Δ (· = .int (-i)) X := ev1_un h fun G H v Q e r k => by
  cases r
  exact ⟨i, rfl, ret1 e (.int _) k⟩
theorem ev_tupT {ds : List D} (h : Ev K E te Δ (· = .tup ds) X) : Ev K E (tCB (rTupO K) (tCons te tNil)) Δ (· = .tup ds) X := ev1_cb (ea1_cons h ea_nil) cd_tupT
theorem ev_tupL {ds : List D} (h : Ev K E te Δ (· = .lst ds) X) : Ev K E (tCB (rTupO K) (tCons te tNil)) Δ (· = .tup ds) X := ev1_cb (ea1_cons h ea_nil) cd_tupL
theorem ev_lenT {ds : List D} (h : Ev K E te Δ (· = .tup ds) X) : Ev K E (tCB (rLenC K) (tCons te tNil)) Δ (· = .int ds.length) X := ev1_cb (ea1_cons h ea_nil) cd_lenT
theorem ev_lenL {ds : List D} (h : Ev K E te Δ (· = .lst ds) X) : Ev K E (tCB (rLenC K) (tCons te tNil)) Δ (· = .int ds.length) X := ev1_cb (ea1_cons h ea_nil) cd_lenL
/-! bytes -/
theorem ev_lenB {bs : List Int} (h : Ev K E te Δ (· = bD bs) X) : Ev K E (tCB (rLenC K) (tCons te tNil)) Δ (· = .int bs.length) X := ev_is (ev_lenT h) (by rw [List.length_map])
theorem cutB {bs : List Int} {lo hi : Option Int} {a n : Nat} (h1 : HT.sIx bs.length 0 lo = a) (h2 : HT.sIx bs.length bs.length hi = a + n) : D.tup (cutD (bs.map D.int) lo hi) = bD ((bs.drop a).take n) := by
  unfold cutD
  rw [List.length_map, h1, h2, Nat.add_sub_cancel_left, ← List.map_drop, ← List.map_take]
  rfl
theorem cutI {bs : List Int} {a b : Nat} : D.tup (cutD (bs.map D.int) (some (a : Int)) (some (b : Int))) = bD ((bs.take b).drop a) := by
  rw [cutD_nn, ← List.map_take, ← List.map_drop]; rfl
theorem cutI_from {bs : List Int} {a : Nat} : D.tup (cutD (bs.map D.int) (some (a : Int)) none) = bD (bs.drop a) := by
  rw [cutD_from, ← List.map_drop]; rfl
theorem cutI_to {bs : List Int} {b : Nat} : D.tup (cutD (bs.map D.int) none (some (b : Int))) = bD (bs.take b) := by
  rw [cutD_to, ← List.map_take]; rfl
theorem sIx_neg {n m k : Nat} (h : 0 < k) (h2 : k ≤ n) : HT.sIx n m (some (-(k : Int))) = n - k := by
  unfold HT.sIx
  simp only
  first
    | (rw [if_pos (by omega)]; omega)
    | (split <;> omega)
    | omega
/-- data[lo:hi] of bytes -/
theorem ev_cutI {tl th : TO} {bs cs : List Int} {lo hi : Option Int} (h : Ev K E te Δ (· = bD bs) X) (h1 : Eo K E tl Δ (· = lo) X) (h2 : Eo K E th Δ (· = hi) X) (e : D.tup (cutD (bs.map D.int) lo hi) = bD cs) : Ev K E (tSl (rSlG K) te tl th) Δ (· = bD cs) X :=
  ev_is (ev1_sl h h1 h2 sd_tup) e
theorem ev_catI {bs cs : List Int} (h : Ev K E ta Δ (· = bD bs) X) (h2 : Ev K E te Δ (· = bD cs) X) (hz : bs.length + cs.length ≤ 1000000) : Ev K E (tOp (rAddG K) ta te) Δ (· = bD (bs ++ cs)) X :=
  ev_is (ev1_op h h2 (od_catT (by rw [List.length_map, List.length_map]; exact szl hz))) bD_app
end
end Ts


/-! Generator expressions whose element is quiet (no calls of defs), over a tuple, one name: any, all. The tables' code objects stay told (LamX.Tabs). -/
namespace Ts
open PySem PySem.Spec PyProof.Rows L2
/-- the scope of a generator expression that captures nothing -/
def genSB (scope : Scope) (x : Str) : Bool :=
  decide (scope.kind = .function) && !scope.isCoroutine && (scope.names.all fun y => !decide (y.2 = .cell) && !decide (y.2 = .free)) && decide (scope.names.lookup (".0" : Str) = some NameKind.local) && decide (scope.names.lookup x = some .local)
theorem genS_by {env : Env} {scope : Scope} {x : Str} (h : genSB scope x = true) : GxR.GenS env scope x := by
  unfold genSB at h
  simp only [Bool.and_eq_true, Bool.not_eq_true', decide_eq_true_eq, decide_eq_false_iff_not, List.all_eq_true] at h
  obtain ⟨⟨⟨⟨h1, h2⟩, h3⟩, h4⟩, h5⟩ := h
  exact ⟨h1, h2, fun y hy => (h3 y hy).1, h4, h5, fun y hy e => absurd e (h3 y hy).2⟩
/-- the element at a value of v: a value of f v; nothing is touched -/
def EltV (X : Cx) (scope : Scope) (x : Str) (elt : Expr) (Pv : V → Prop) (f : V → V) : Prop :=
  ∀ (cenv : Env) (A' : Around) (E' : Value → Shared → Prop) (v : V) (u : Value) (s₂ : Shared) (m₂ : Str → Option Value), cenv.scope = scope → Pv v → RelV v u → s₂.heap.Ns cenv.locals m₂ → m₂ x = some u →
    wpAny (model X.prog X.w) A' (eval elt cenv) (fun y s₃ => RelV (f v) y ∧ Keeps s₂ s₃) E' s₂
/-- x != n, x an int -/
theorem elt_neI {X : Cx} {scope : Scope} {x : Str} {n : Int} {j : Nat} {p1 p2 p3 : Pos} (hk : scope.kind = .function) (hl : scope.names.lookup x = some .local) (hd : (x == ("__debug__" : Str)) = false := by decide) :
    EltV X scope x (.Compare (.Name x p1) [.NotEq] [.Constant (.int n) j p2] p3) (fun v => ∃ i, v = .int i) (fun v => .bl (decide (v ≠ .int n))) := by
  intro cenv A' E' v u t m₂ hs ⟨i, hv⟩ r hn hm
  subst hv
  obtain ⟨k, rfl⟩ : ∃ k, u = .int i k := r
  refine wpAny_Compare1 ?_
  refine wpAny_Name (wpAny_loadName_local (by rw [hs]; exact hk) (show cenv.scope.names.lookup x = some .local by rw [hs]; exact hl) hn hm ?_) hd
  refine wpAny_Constant_int ?_
  exact PySem.P.ne_int ⟨by show _ = _; congr 1; rw [Bool.eq_iff_iff]; simp, GxR.keeps_refl _⟩
section
variable {X : Cx} {pins : List (Addr × Obj)} {σ : L2.St} {H : Hp} {s : Shared}
/-- the generator g over the values xs, ready to be walked in the state s5; H1: what was held before -/
def ReadyV (T : Tb) (X : Cx) (pins : List (Addr × Obj)) (σ : L2.St) (H1 : Hp) (xs : List V) (f : V → V) (g : Addr) (s5 : Shared) : Prop :=
  ∃ (fp wr : List Addr) (G : Array GenState → Array GenState → Prop) (F : Nat → Value → Prop) (St : Nat → Shared → Prop),
    WalksS X.prog X.w X.A.in4 g fp wr G xs.length F St ∧ St 0 s5 ∧ (∀ b ∈ fp, b < s5.heap.objs.size) ∧ g ∈ fp ∧ (∀ i s9, St i s9 → s9.TypeIs (.ref g) "generator") ∧
    (∀ j y, F j y → ∃ v, xs[j]? = some v ∧ RelV (f v) y) ∧
    ∀ s', Moved wr G s5 s' → ∃ H2, LamX.ExtN H1 H2 ∧ LamX.Tabs T H2 ∧ Inv X pins σ H2 s'
/-- the table of the running def, its code objects told -/
theorem gen_tupV {T : Tb} {c P : Addr} {elt iter : Expr} {x : Str} {px gpos : Pos} {scope : Scope} {Pv : V → Prop} {f : V → V} {te : TE} {k : Nat} {Q' : Value → Shared → Prop} {R : List V → Hp → Prop}
    (hr : Room k X.A) (TB : LamX.TabB X.base X.mg c P) (hcode : X.env.code = .ref c) (hmT : (P, X.env.qual ++ "<genexpr>") ∈ T) (hu : ∀ p ∈ T, p.1 = P → p.2 = X.env.qual ++ "<genexpr>")
    (S : GxR.GenS X.env scope x) (hi : PE X iter te) (hel : EltV X scope x elt Pv f)
    (hs : ∀ v, genFold iter X.env v = pure v) (I : Inv X pins σ H s) (h : te σ H fun v H1 => ∃ (yl : Addr) (xs : List V), v = .ref yl ∧ SqT X.K H1 yl xs ∧ (∀ a ∈ xs, Pv a) ∧ LamX.Tabs T H1 ∧ R xs H1)
    (hQ : ∀ xs H1 g s5, R xs H1 → ReadyV T X pins σ H1 xs f g s5 → Q' (.ref g) s5) :
    wpAny (model X.prog X.w) X.A (eval (.GeneratorExp elt [⟨.Name x px, iter, [], 0⟩] scope gpos) X.env) Q' X.xe s := by
  refine wpAny_GeneratorExp_walksQ hr.hd S.co (closure_ok S.free) S.cell S.dot S.loc S.kind (by have := hr.dp; omega) ?_ hs
  refine thn (hi.run pins s σ H _ I h) fun xv s1 ⟨v, H1, I1, r1, q1⟩ => ?_
  obtain ⟨yl, xs, rfl, hyl, hPz, hT, q1⟩ := q1
  obtain rfl : xv = Value.ref yl := r1
  obtain ⟨its, rv, hIT, hz⟩ := I1.tuple hyl
  have hIL : s1.heap.IsTuple yl its.toArray := hIT
  have hlen : its.length = xs.length := by rw [← rv.length]
  have hat : ∀ (i : Nat) (u : Value), its.toArray[i]? = some u → ∃ v : V, xs[i]? = some v ∧ RelV v u := fun i u hv => by
    have hv2 : its[i]? = some u := by simpa using hv
    have hi2 : i < its.length := (List.getElem?_eq_some_iff.mp hv2).1
    obtain ⟨a, ha⟩ : ∃ a, xs[i]? = some a := ⟨xs[i]'(by omega), List.getElem?_eq_getElem _⟩
    obtain ⟨u', hu', ru⟩ := rv.get ha
    rw [hv2] at hu'
    cases hu'
    exact ⟨a, ha, ru⟩
  obtain ⟨ps, hP, ht, hca⟩ := hT _ hmT
  refine wpAny_pyIter_tuple hIL ?_
  generalize ho : ({ cls := .type "tuple_iterator", data := .fields #[.ref yl, .int 0 0] } : Obj) = o
  have hitr : (s1.heap.push o).IsTupleIter s1.heap.objs.size yl 0 := by
    subst ho
    exact ⟨_, Heap.get?_push_size _ rfl, rfl, rfl⟩
  have hylt : yl < s1.heap.objs.size := by
    obtain ⟨_, e, _⟩ := _root_.id hIL
    exact Heap.lt_size e
  have hPs : s1.heap.get? P = some { cls := .none, data := .fields ps } := I1.hok P _ hP
  have hPlt : P < s1.heap.objs.size := Heap.lt_size hPs
  have hP2 : (s1.heap.push o).get? P = some { cls := .none, data := .fields ps } := Heap.get?_push_of_some _ hPs
  have cd : PySem.W.CodeHd (s1.heap.push o) c P := TB.code.keeps fun b u e => Heap.get?_push_of_some _ (I1.bk b u e)
  have lim2 : (s1.heap.push o).NoLimit := I1.nolimit.push o
  have cont : ∀ (code : Value) (h3 : Heap) (tk : Nat) (ps' : Array Value) (H2 : Hp), Heap.ExtBut P (s1.heap.push o) h3 → (s1.heap.push o).objs.size ≤ h3.objs.size → h3.get? P = some { cls := .none, data := .fields ps' } → H2 P = some (.tbl ps') →
      Inv X pins σ H2 { s1 with heap := h3, toks := tk } → LamX.ExtN H1 H2 → LamX.Tabs T H2 → H2 s1.heap.objs.size = none →
      wpAny (model X.prog X.w) X.A (builtinsFor X.env.globals X.env.builtins) (fun bi s₄ =>
        ∃ Ia fp wr n₀ Pf St₀ pz F, Value.ref s1.heap.objs.size = .ref Ia ∧ (∀ A' : Around, A'.handled = none → Walks X.prog X.w A' Ia fp wr n₀ Pf St₀) ∧ St₀ 0 s₄.heap ∧ (∀ b ∈ fp, b < s₄.heap.objs.size) ∧ s₄.heap.NoLimit ∧ cStatics ∉ wr ∧
          (∀ href : Heap, (∀ b o, s₄.heap.get? b = some o → href.get? b = some o) →
            QuietGen X.prog X.w (genEnv scope (cloFrom X.env.cells scope.names []) s₄.heap.objs.size code bi X.env) x [] elt (List.range s₄.heap.objs.size) wr Pf pz F href) ∧
          (∀ a h₅ tk gs, gs.bare = true → s₄.heap.objs.size < a → h₅.objs.size = a + 1 → (∀ b o, s₄.heap.get? b = some o → h₅.get? b = some o) →
            WalksS X.prog X.w X.A.in4 a (a :: s₄.heap.objs.size :: List.range s₄.heap.objs.size) (s₄.heap.objs.size :: wr) (GenOnlyQ s₄.gens.size) (passing pz n₀ 0).length
              (fun j y => ∃ i, (passing pz n₀ 0)[j]? = some i ∧ F i y) (GenAt X.prog X.w X.A.in4 a s₄.gens.size s₄.heap.objs.size (List.range s₄.heap.objs.size) wr pz n₀ F) →
            GenAt X.prog X.w X.A.in4 a s₄.gens.size s₄.heap.objs.size (List.range s₄.heap.objs.size) wr pz n₀ F 0 { s₄ with gens := s₄.gens.push gs, toks := tk, heap := h₅ } →
            Q' (.ref a) { s₄ with gens := s₄.gens.push gs, toks := tk, heap := h₅ })) X.xe { s1 with heap := h3, toks := tk } := by
    intro code h3 tk ps' H2 hx hsz hP3 hH2 I3 hE hT2 hI2
    obtain ⟨bm, ob, e1, e2, e3, e4, e5, e6, e7, e8⟩ := TB.bm
    have hcP : cStatics ≠ P := fun e => by
      obtain ⟨_, hns, _⟩ := I1.nolimit
      obtain ⟨o', es, ep, ho, hd, _⟩ := hns
      rw [e, hPs] at ho
      cases ho
      cases hd
    have hcl : cStatics < s1.heap.objs.size := let ⟨_, hns, _⟩ := I1.nolimit; hns.lt
    have sz2 : (s1.heap.push o).objs.size = s1.heap.objs.size + 1 := Heap.size_push ..
    have keep3 : ∀ b u, b ≠ P → s1.heap.get? b = some u → h3.get? b = some u := fun b u hb e => hx b u hb (Heap.get?_push_of_some _ e)
    refine wpAny_builtinsFor (m := X.mg) (by rw [I1.ok.glob]; exact ((I1.mod.glob.keeps I1.bk).push o).extBut hx TB.gP) e1 e2 (keep3 _ _ e4 (I1.bk _ _ e5)) e6 e7 e8 ?_
    have hylP : yl ≠ P := fun z => by
      obtain ⟨_, e, hc1, _, hd1⟩ := _root_.id hIL
      rw [z, hPs] at e
      cases e
      cases hd1
    have hIL3 : h3.IsTuple yl its.toArray := by
      obtain ⟨ob, e, r⟩ := _root_.id hIL
      exact ⟨ob, keep3 _ _ hylP e, r⟩
    have hItr3 : h3.IsTupleIter s1.heap.objs.size yl 0 := by
      obtain ⟨ob, e, r⟩ := hitr
      exact ⟨ob, hx _ _ (Nat.ne_of_gt hPlt) e, r⟩
    refine ⟨s1.heap.objs.size, [s1.heap.objs.size, yl], [s1.heap.objs.size], its.toArray.size, (fun i v => its.toArray[i]? = some v), (fun i h => h.IsTupleIter s1.heap.objs.size yl i ∧ h.IsTuple yl its.toArray), (fun _ => true),
      (fun i y => ∃ v : V, xs[i]? = some v ∧ RelV (f v) y), rfl, (fun A' hA => Walks.tuple hA _ _ (Nat.ne_of_lt hylt) _), ⟨hItr3, hIL3⟩, ?_, lim2.extBut hx hcP, ?_, ?_, ?_⟩
    · intro b hb
      rcases List.mem_cons.mp hb with z | z
      · rw [z]
        show s1.heap.objs.size < h3.objs.size
        omega
      · rcases List.mem_cons.mp z with z | z
        · rw [z]
          have e9 : s1.heap.objs.size ≤ h3.objs.size := by omega
          exact Nat.lt_of_lt_of_le hylt e9
        · cases z
    · intro z
      rcases List.mem_cons.mp z with z | z
      · exact Nat.ne_of_lt hcl z
      · cases z
    · intro href hhref
      refine ⟨fun A' E' i v s₂ m₂ hA hPv hn hm hk => ?_, fun A' E' i v s₂ m₂ hA hPv hp hn hm hk => ?_⟩
      · simp only [List.forIn_nil]
        exact wpAny_pure ⟨rfl, GxR.keeps_refl _⟩
      · obtain ⟨a, ha, ru⟩ := hat i v hPv
        exact wpAny_mono (hel _ A' E' a v s₂ m₂ rfl (hPz a (List.mem_of_getElem? ha)) ru hn hm) (fun y s3 r => ⟨⟨a, ha, r.1⟩, r.2⟩) fun _ _ e => e
    · intro g h5 tk5 gs hgb hag hsz5 hk5 W5 hgat
      simp only [GxR.passing_true, List.length_range] at W5
      have hn5 : its.toArray.size = xs.length := by rw [List.size_toArray, hlen]
      rw [hn5] at W5 hgat
      refine hQ xs H1 g _ q1 ⟨_, _, _, _, _, W5, hgat, ?_, List.mem_cons_self, fun i s9 h9 => ?_, ?_, fun s' hm => ?_⟩
      · intro b hb
        show b < h5.objs.size
        have e5 : h5.objs.size = g + 1 := hsz5
        have h8 : h3.objs.size < g := hag
        rw [e5]
        rcases List.mem_cons.mp hb with z | z
        · rw [z]
          exact Nat.lt_succ_self g
        · rcases List.mem_cons.mp z with z | z
          · rw [z]
            exact Nat.lt_succ_of_lt h8
          · have z2 := List.mem_range.mp z
            have h7 : b < h3.objs.size := z2
            exact Nat.lt_succ_of_lt (Nat.lt_trans h7 h8)
      · obtain ⟨hg9, _⟩ := h9
        exact hg9.typeIs
      · intro j v hv
        obtain ⟨i, hij, a, ha, e⟩ := hv
        obtain ⟨hj, ej⟩ := List.getElem?_eq_some_iff.mp hij
        rw [List.getElem_range] at ej
        subst ej
        exact ⟨a, ha, e⟩
      · have out : ∀ b u, h3.get? b = some u → b ≠ s1.heap.objs.size → b ∉ h3.objs.size :: [s1.heap.objs.size] := fun b u e n hb => by
          have hl := Heap.lt_size e
          rcases List.mem_cons.mp hb with z | z
          · rw [z] at hl
            exact Nat.lt_irrefl _ hl
          · rcases List.mem_cons.mp z with z | z
            · exact n z
            · cases z
        have hm1 : ∀ b u, h3.get? b = some u → b ≠ s1.heap.objs.size → s'.heap.get? b = some u := fun b u e n => hm.heap b u (out b u e n) (hk5 b u e)
        have nP : P ≠ s1.heap.objs.size := Nat.ne_of_lt hPlt
        obtain ⟨f0, f1, f2, f3, f4, f5⟩ := I1.fpOk (H' := H2) (Nat.le_refl _) hI2
        have I4 := I3.turned (h' := s'.heap) (t' := s'.toks) (fun b u hb e => hm1 b u e hb) f0 f1 f3 f4 f5
        have J := GxR.inv_tab (more := #[]) (h' := s'.heap) (g' := s'.gens) (d' := s'.drawn) (t' := s'.toks) I4 hH2 (fun b u hb e => e)
          (by rw [Array.append_empty]; exact hm1 P _ hP3 nP) (AllBare.movedS (I3.bare.push hgb) hm)
        rw [GxR.sh_eta _ s' hm.os] at J
        have eq : upd H2 P (.tbl (ps' ++ #[])) = H2 := by
          funext b
          by_cases z : b = P
          · rw [z, upd_same, hH2, Array.append_empty]
          · rw [upd_ne z]
        rw [eq] at J
        exact ⟨H2, hE, hT2, J⟩
  refine ⟨lim2, ?_⟩
  cases hf : codeAmong gpos ps.toList with
  | none =>
    refine wpAny_genexprCodeX hcode (cd.code hP2 ht) (cd.tab hP2) hf fun c' h' tk hx hge hlt hco' hrec htab' _ => ?_
    obtain ⟨o1, vs, f1, tf, fl, tg, inF, tx, tt, op, _, _, _, _, _, _, _, _, _, htr, _⟩ := hco'
    have sz2 : (s1.heap.push o).objs.size = s1.heap.objs.size + 1 := Heap.size_push ..
    have hge0 : (s1.heap.push o).objs.size ≤ c' := hge
    have hge' : s1.heap.objs.size ≤ c' := by omega
    obtain ⟨c2, oc, cvs, ct, e2, hoc, hcd, hcv⟩ := hrec
    cases e2
    have nC : H1 c' = none := I1.hok.fresh hge'
    have I3 := LamX.inv_table (t' := tk) (more := #[rawInt gpos.line, rawInt gpos.col, .ref c']) (h' := h') I1 hP (fun b u hb e => hx b u hb (Heap.get?_push_of_some _ e)) htab'.2 hge' ⟨oc, cvs, ct, hoc, hcd, hcv⟩
    have hE : LamX.ExtN H1 (upd (upd H1 P (.tbl (ps ++ #[rawInt gpos.line, rawInt gpos.col, .ref c']))) c' (LamX.CodeO c' (X.env.qual ++ "<genexpr>"))) := fun b o e n => by
      rw [upd_ne (ne_of_none e nC), upd_ne (fun z => n ps (Option.some.inj (e.symm.trans (by rw [z]; exact hP))))]
      exact e
    have eL : (ps ++ #[rawInt gpos.line, rawInt gpos.col, .ref c']).toList = ps.toList ++ [rawInt gpos.line, rawInt gpos.col, .ref c'] := by simp
    refine cont _ h' tk _ _ hx (Nat.le_trans hge (Nat.le_of_lt hlt)) htab'.2 (by rw [upd_ne (ne_of_none hP nC), upd_same]) I3 hE (fun p hp => ?_) (by rw [upd_ne (Nat.ne_of_lt (by omega)), upd_ne (Nat.ne_of_gt hPlt)]; exact I1.hok.fresh (Nat.le_refl _))
    by_cases hb : p.1 = P
    · rw [hu p hp hb, hb]
      refine ⟨_, by rw [upd_ne (ne_of_none hP nC), upd_same], htr, fun p' cv hcv => ?_⟩
      rw [eL] at hcv
      rcases LamX.among_app _ ht hcv with z | z
      · obtain ⟨c0, e1, e2⟩ := hca p' cv z
        exact ⟨c0, e1, hE _ _ e2 LamX.codeO_ne⟩
      · exact ⟨c', z, upd_same⟩
    · obtain ⟨ps', a1, a2, a3⟩ := hT p hp
      refine ⟨ps', by rw [upd_ne (ne_of_none a1 nC), upd_ne hb]; exact a1, a2, fun p' cv hcv => ?_⟩
      obtain ⟨c0, e1, e2⟩ := a3 p' cv hcv
      exact ⟨c0, e1, hE _ _ e2 LamX.codeO_ne⟩
  | some cv =>
    refine wpAny_genexprCode_hit hcode (cd.code hP2 ht) hf ?_
    exact cont cv (s1.heap.push o) s1.toks ps H1 (Heap.ExtBut.refl _ _) (Nat.le_refl _) hP2 hP (I1.kept fun b u e => Heap.get?_push_of_some _ e) (LamX.ExtN.refl H1) hT (I1.hok.fresh (Nat.le_refl _))
/-- the truth of the elements, by place -/
def trV (p : V → Bool) (l : List V) (j : Nat) : Bool := match l[j]? with
  | some b => p b
  | none => false
theorem trV_some {p : V → Bool} {l : List V} {j : Nat} {b : V} (h : l[j]? = some b) : trV p l j = p b := by
  unfold trV
  rw [h]
theorem any_trV (l : List V) (p : V → Bool) : (List.range l.length).any (trV p l) = l.any p := by
  rw [Bool.eq_iff_iff, List.any_eq_true, List.any_eq_true]
  constructor
  · intro ⟨j, hj, h⟩
    have hj' := List.mem_range.mp hj
    rw [trV_some (List.getElem?_eq_getElem hj')] at h
    exact ⟨l[j], List.getElem_mem hj', h⟩
  · intro ⟨b, hb, h⟩
    obtain ⟨j, hj, e⟩ := List.getElem_of_mem hb
    refine ⟨j, List.mem_range.mpr hj, ?_⟩
    rw [trV_some (List.getElem?_eq_getElem hj), e]
    exact h
/-- any(p of x for x in te), te a tuple -/
def tAnyT (K : PySem.W.Frag) (T : Tb) (Pv : V → Prop) (p : V → Bool) (te : TE) : TE := fun σ H Q => te σ H fun v H1 => ∃ (yl : Addr) (xs : List V), v = .ref yl ∧ SqT K H1 yl xs ∧ (∀ a ∈ xs, Pv a) ∧ LamX.Tabs T H1 ∧
  ∀ H2, LamX.ExtN H1 H2 → LamX.Tabs T H2 → Q (.bl (xs.any p)) H2
theorem pe_anyT {T : Tb} {c P : Addr} {elt iter : Expr} {x : Str} {px p pos gpos : Pos} {scope : Scope} {Pv : V → Prop} {g : V → Bool} {te : TE} {k : Nat}
    (hr : Room k X.A) (hg : Gl X "any") (hm : X.mg "any" = none) (TB : LamX.TabB X.base X.mg c P) (hcode : X.env.code = .ref c) (hmT : (P, X.env.qual ++ "<genexpr>") ∈ T) (hu : ∀ p ∈ T, p.1 = P → p.2 = X.env.qual ++ "<genexpr>")
    (S : GxR.GenS X.env scope x) (hi : PE X iter te) (hel : EltV X scope x elt Pv (fun v => .bl (g v))) (hs : ∀ v, genFold iter X.env v = pure v)
    (he : starEach [.GeneratorExp elt [⟨.Name x px, iter, [], 0⟩] scope gpos] X.env = (false, eval (.GeneratorExp elt [⟨.Name x px, iter, [], 0⟩] scope gpos) X.env) :: starEach [] X.env := by rfl) :
    PE X (.Call (.Name "any" p) [.GeneratorExp elt [⟨.Name x px, iter, [], 0⟩] scope gpos] [] pos) (tAnyT X.K T Pv g te) := by
  refine ⟨fun pins s σ H Q I h => ?_⟩
  refine wpAny_Call_Name_kw (ld_blt I hg hm boot_any ?_)
  refine PyProof.Rows.callWith_builtin1 ?_ he (by rfl)
  rw [he]
  show wpAny _ _ (spliced ((false, eval (.GeneratorExp elt [⟨.Name x px, iter, [], 0⟩] scope gpos) X.env) :: backTo pos (starEach [] X.env))) _ _ s
  refine Calls.spliced_cons (gen_tupV (T := T) (R := fun xs H1 => ∀ H2, LamX.ExtN H1 H2 → LamX.Tabs T H2 → Q (.bl (xs.any g)) H2) hr TB hcode hmT hu S hi hel hs I h fun xs H1 gn s5 hR hG => ?_)
  obtain ⟨fp, wr, G, F, St, W, hst, _, _, _, hF, hI⟩ := hG
  refine Calls.spliced_nil ?_
  have W1 := W.in4_1
  refine call_any_walkS (W1.self 0 _ _ _ hst ⟨gn, fp, wr, G, _, F, St, trV g xs, rfl, W1, hst, ?_, fun s' hmv => ?_⟩)
  · intro j y sj Qj Ej hy hQj
    obtain ⟨v, hv, r⟩ := hF j y hy
    obtain rfl : y = .bool (g v) := r
    have hQ2 : Qj (trV g xs j) sj := hQj
    rw [trV_some hv] at hQ2
    exact wpAny_truthy_bool hQ2
  · obtain ⟨H2, hE, hT2, J⟩ := hI s' hmv
    refine ⟨.bl _, H2, J, rfl, ?_⟩
    rw [any_trV xs g]
    exact hR H2 hE hT2
end

/-! ### by data -/
section
variable [Tt] {K : PySem.W.Frag} {E : L2.St → XK} {Δ : En} {te : TE} {X : Addr → Prop}
/-- a growth of tables alone -/
theorem Gr.tabs {q : Qd} {G H H1 : Hp} (sub : Exx G H) (e : LamX.ExtN H H1) (t : TbOk H1) : Gr q G H G H1 :=
  ⟨Exx.refl _, fun _ _ e => .inl e, fun b o h nt => e b o (sub b o h nt) nt, fun b o _ h nt => e b o h nt, fun _ => t, fun b _ ⟨x, y, z, d⟩ => ⟨x, y, z, e _ _ d (fun _ z => nomatch z)⟩⟩
theorem RpL.any {G : Hp} {Pv : V → Prop} {g : V → Bool} {p : D → Bool} : ∀ {xs : List V} {ds : List D}, RpL K G xs ds → (∀ v d, d ∈ ds → Rp K G v d → Pv v ∧ g v = p d) → (∀ a ∈ xs, Pv a) ∧ xs.any g = ds.any p
  | [], [], _, _ => And.intro (fun _ h => nomatch h) rfl
  | x :: xs, d :: ds, h, hp => by
    cases h with
    | cons r rs =>
      obtain ⟨h1, h2⟩ := hp x d (List.mem_cons_self ..) r
      obtain ⟨h3, h4⟩ := RpL.any rs fun v d hd r => hp v d (List.mem_cons_of_mem _ hd) r
      refine ⟨fun a ha => ?_, by rw [List.any_cons, List.any_cons, h2, h4]⟩
      rcases List.mem_cons.mp ha with z | z
      · rw [z]; exact h1
      · exact h3 a z
theorem ev_anyT {Pv : V → Prop} {g : V → Bool} {p : D → Bool} {ds : List D} (h : Ev K E te Δ (· = .tup ds) X) (hp : ∀ G v d, d ∈ ds → Rp K G v d → Pv v ∧ g v = p d) :
    Ev K E (tAnyT K Tt.tb Pv g te) Δ (· = .bl (ds.any p)) X := fun q G0 H0 G H σ Q s k kx =>
  h q G0 H0 G H σ _ s (fun v d G1 H1 g1 r1 p1 => by
    subst p1
    obtain ⟨a, xs, rfl, hx, rl⟩ := r1.tup_inv
    obtain ⟨h1, h2⟩ := rl.any fun v d hd r => hp G1 v d hd r
    refine ⟨a, xs, rfl, st_ex g1.sub hx, h1, (s.go g1).rs.tb, fun H2 e t => ?_⟩
    rw [h2]
    exact k _ _ G1 H2 (s.tr g1 (.tabs g1.sub e t)) (.bl _) rfl) kx
end
end Ts


/-! Generator expressions over a tuple of pairs, two names: sum. -/
namespace Ts
open PySem PySem.Spec PyProof.Rows L2
theorem pickN {α : Type} [Inhabited α] {n : Nat} {p : Nat → α → Prop} (h : ∀ i, i < n → ∃ a, p i a) : ∃ f : Nat → α, ∀ i, i < n → p i (f i) :=
  ⟨fun i => if h' : i < n then (h i h').choose else default, fun i h' => by simp only [dif_pos h']; exact (h i h').choose_spec⟩
/-- an iterator over a tuple whose items are tuples -/
theorem walks_pairs {prog : Program} {w : World} {A : Around} (hh : A.handled = none) (I ax : Addr) (hne : ax ≠ I) (items : Array Value) (Ts : Nat → Addr) (vals : Nat → Array Value)
    (hit : ∀ j, j < items.size → items[j]? = some (.ref (Ts j))) (hTI : ∀ j, j < items.size → Ts j ≠ I) :
    WalksU prog w A I (I :: ax :: (List.range items.size).map Ts) [I] items.size (fun j v => v = vals j)
      (fun j h => h.IsTupleIter I ax j ∧ h.IsTuple ax items ∧ ∀ k, k < items.size → h.IsTuple (Ts k) (vals k))
      (fun j T h => (j < items.size ∧ T = Ts j) ∧ h.IsTupleIter I ax (j + 1) ∧ h.IsTuple ax items ∧ ∀ k, k < items.size → h.IsTuple (Ts k) (vals k)) where
  sub := fun b hb => by
    rw [List.mem_singleton.mp hb]
    exact List.mem_cons_self
  frame := fun _ _ _ st hk => ⟨st.1.at fun o e => hk I (by simp) o e, st.2.1.at fun o e => hk ax (by simp) o e,
    fun k hk' => (st.2.2 k hk').at fun o e => hk (Ts k) (List.mem_cons_of_mem _ (List.mem_cons_of_mem _ (List.mem_map.mpr ⟨k, List.mem_range.mpr hk', rfl⟩))) o e⟩
  item := fun i s Q E hi st hQ => by
    refine wpAny_pyNext_tuple_item st.1 st.2.1 (x := .ref (Ts i)) (hit i hi) fun h' hit' hs' => ?_
    have tup : ∀ k, k < items.size → h'.IsTuple (Ts k) (vals k) := fun k hk' => (st.2.2 k hk').extBut hs'.extBut (hTI k hk')
    exact hQ (Ts i) (vals i) h' s.toks rfl (tup i hi) ⟨⟨hi, rfl⟩, hit', st.2.1.extBut hs'.extBut hne, tup⟩ fun b o hb e => hs'.extBut b o (fun h => hb (by simp [h])) e
  go := fun elts k pos i T s Q E hm hQ => by
    obtain ⟨o, ho, hc, hd⟩ := hm.2.1
    exact go_of ho hc hd (by decide) (hQ s.heap hm.2 fun _ _ _ e => e)
  apart := fun j T _ hm hmem => by
    rcases List.mem_cons.mp hmem with e | e
    · exact hTI j hm.1.1 (hm.1.2 ▸ e)
    · cases e
  done := fun s Q E st hQ => wpAny_pyNext_tuple_end hh st.1 st.2.1 (by simp) fun h' he' => hQ h' s.toks fun b o hb e => he' b o (fun h => hb (by simp [h])) e
  self := fun _ _ _ _ st hQ => wpAny_pyIter_tupleiter st.1 hQ
theorem walks_pairs2 {prog : Program} {w : World} {A : Around} (hh : A.handled = none) (I ax : Addr) (hne : ax ≠ I) (items : Array Value) (Ts : Nat → Addr) (vals : Nat → Array Value)
    (hit : ∀ j, j < items.size → items[j]? = some (.ref (Ts j))) (hTI : ∀ j, j < items.size → Ts j ≠ I) :
    WalksU prog w A I (I :: ax :: (List.range items.size).map Ts) [I] items.size (fun j v => j < items.size ∧ v = vals j)
      (fun j h => h.IsTupleIter I ax j ∧ h.IsTuple ax items ∧ ∀ k, k < items.size → h.IsTuple (Ts k) (vals k))
      (fun j T h => (j < items.size ∧ T = Ts j) ∧ h.IsTupleIter I ax (j + 1) ∧ h.IsTuple ax items ∧ ∀ k, k < items.size → h.IsTuple (Ts k) (vals k)) :=
  have W := walks_pairs (prog := prog) (w := w) hh I ax hne items Ts vals hit hTI
  { W with item := fun i s Q E hi st hQ => W.item i s Q E hi st fun T vs h' tk hp => hQ T vs h' tk ⟨hi, hp⟩ }
/-- the element at two values: an int; nothing is touched. KV h ua ub n: in the heap h the two give n -/
def EltP (X : Cx) (scope : Scope) (xa xb : Str) (elt : Expr) (KV : Heap → Value → Value → Int → Prop) : Prop :=
  ∀ (cenv : Env) (A' : Around) (E' : Value → Shared → Prop) (ua ub : Value) (n : Int) (s₂ : Shared) (m₂ : Str → Option Value), A'.handled = none → Mod X.K X.mg X.base → cenv.scope = scope → cenv.globals = mainGlobals → cenv.builtins = builtinsNs → (∀ b o, X.base.get? b = some o → s₂.heap.get? b = some o) →
    KV s₂.heap ua ub n → s₂.heap.Ns cenv.locals m₂ → m₂ xa = some ua → m₂ xb = some ub →
    wpAny (model X.prog X.w) A' (eval elt cenv) (fun y s₃ => (∃ t, y = .int n t) ∧ Keeps s₂ s₃) E' s₂
/-- the generator g over ints ns, ready to be walked in the state s5 -/
def ReadyI (T : Tb) (X : Cx) (pins : List (Addr × Obj)) (σ : L2.St) (H1 : Hp) (ns : List Int) (g : Addr) (s5 : Shared) : Prop :=
  ∃ (fp wr : List Addr) (G : Array GenState → Array GenState → Prop) (F : Nat → Value → Prop) (St : Nat → Shared → Prop),
    WalksS X.prog X.w X.A.in4 g fp wr G ns.length F St ∧ St 0 s5 ∧ (∀ b ∈ fp, b < s5.heap.objs.size) ∧ g ∈ fp ∧ (∀ i s9, St i s9 → s9.TypeIs (.ref g) "generator") ∧
    (∀ j y, F j y → ∃ n t, ns[j]? = some n ∧ y = .int n t) ∧
    ∀ s', Moved wr G s5 s' → ∃ H2, LamX.ExtN H1 H2 ∧ LamX.Tabs T H2 ∧ Inv X pins σ H2 s'
section
variable {X : Cx} {pins : List (Addr × Obj)} {σ : L2.St} {H : Hp} {s : Shared}
/-- the table of the running def, its code objects told -/
theorem gen_pairs {T : Tb} {c P : Addr} {elt iter : Expr} {xa xb : Str} {pa pb pt gpos : Pos} {kt : Nat} {scope : Scope} {KV : Heap → Value → Value → Int → Prop} {KVV : Hp → V → V → Int → Prop} {te : TE} {k : Nat} {Q' : Value → Shared → Prop} {R : List Int → Hp → Prop}
    (hr : Room k X.A) (TB : LamX.TabB X.base X.mg c P) (hcode : X.env.code = .ref c) (hmT : (P, X.env.qual ++ "<genexpr>") ∈ T) (hu : ∀ p ∈ T, p.1 = P → p.2 = X.env.qual ++ "<genexpr>")
    (S : GxR.GenS X.env scope xa) (Sb : scope.names.lookup xb = some .local) (hab : xa ≠ xb) (hi : PE X iter te) (hel : EltP X scope xa xb elt KV)
    (hst : ∀ h h' ua ub n, KV h ua ub n → (∀ t its, h.IsTuple t its → h'.IsTuple t its) → KV h' ua ub n) (hKV : ∀ pins s σ H p q n ua ub, Inv X pins σ H s → KVV H p q n → RelV p ua → RelV q ub → KV s.heap ua ub n)
    (hs : ∀ v, genFold iter X.env v = pure v) (I : Inv X pins σ H s) (h : te σ H fun v H1 => ∃ (yl : Addr) (xs : List V) (ns : List Int), v = .ref yl ∧ SqT X.K H1 yl xs ∧ ns.length = xs.length ∧ (∀ (j : Nat) (v : V) (n : Int), xs[j]? = some v → ns[j]? = some n → ∃ (a : Addr) (p q : V), v = .ref a ∧ SqT X.K H1 a [p, q] ∧ KVV H1 p q n) ∧ LamX.Tabs T H1 ∧ R ns H1)
    (hQ : ∀ ns H1 g s5, R ns H1 → ReadyI T X pins σ H1 ns g s5 → Q' (.ref g) s5) :
    wpAny (model X.prog X.w) X.A (eval (.GeneratorExp elt [⟨.Tuple [.Name xa pa, .Name xb pb] kt pt, iter, [], 0⟩] scope gpos) X.env) Q' X.xe s := by
  refine wpAny_GeneratorExp_walksQT hr.hd S.co (closure_ok S.free) S.cell S.dot S.loc Sb hab S.kind (by have := hr.dp; omega) ?_ hs
  refine thn (hi.run pins s σ H _ I h) fun xv s1 ⟨v, H1, I1, r1, q1⟩ => ?_
  obtain ⟨yl, xs, ns, rfl, hyl, hnl, hPz, hT, q1⟩ := q1
  obtain rfl : xv = Value.ref yl := r1
  obtain ⟨its, rv, hIT, hz⟩ := I1.tuple hyl
  have hIL : s1.heap.IsTuple yl its.toArray := hIT
  have hlen : its.length = xs.length := by rw [← rv.length]
  have hat : ∀ i, i < its.length → ∃ (a : Addr) (ua ub : Value) (n : Int), its[i]? = some (.ref a) ∧ s1.heap.IsTuple a #[ua, ub] ∧ ns[i]? = some n ∧ KV s1.heap ua ub n := fun i hi2 => by
    have e1 : xs[i]? = some (xs[i]'(by omega)) := List.getElem?_eq_getElem _
    have e2 : ns[i]? = some (ns[i]'(by omega)) := List.getElem?_eq_getElem _
    obtain ⟨a, p, q, hv, hsq, hkv⟩ := hPz i _ _ e1 e2
    obtain ⟨u', hu', ru⟩ := rv.get e1
    rw [hv] at ru
    obtain rfl : u' = Value.ref a := ru
    obtain ⟨us, rus, hIT2, _⟩ := I1.tuple hsq
    obtain ⟨ua, ub, eus, ra, rb⟩ := vals2 rus
    subst eus
    exact ⟨a, ua, ub, _, hu', hIT2, e2, hKV _ _ _ _ _ _ _ _ _ I1 hkv ra rb⟩
  obtain ⟨Ts, hTs⟩ := pickN hat
  obtain ⟨vals, hvals⟩ := pickN (n := its.length) (α := Array Value) (p := fun i v => ∃ (ua ub : Value) (n : Int), v = #[ua, ub] ∧ its[i]? = some (.ref (Ts i)) ∧ s1.heap.IsTuple (Ts i) #[ua, ub] ∧ ns[i]? = some n ∧ KV s1.heap ua ub n)
    fun i h => by
      obtain ⟨ua, ub, n, h1⟩ := hTs i h
      exact ⟨_, ua, ub, n, rfl, h1⟩
  obtain ⟨ps, hP, ht, hca⟩ := hT _ hmT
  refine wpAny_pyIter_tuple hIL ?_
  generalize ho : ({ cls := .type "tuple_iterator", data := .fields #[.ref yl, .int 0 0] } : Obj) = o
  have hitr : (s1.heap.push o).IsTupleIter s1.heap.objs.size yl 0 := by
    subst ho
    exact ⟨_, Heap.get?_push_size _ rfl, rfl, rfl⟩
  have hylt : yl < s1.heap.objs.size := by
    obtain ⟨_, e, _⟩ := _root_.id hIL
    exact Heap.lt_size e
  have hPs : s1.heap.get? P = some { cls := .none, data := .fields ps } := I1.hok P _ hP
  have hPlt : P < s1.heap.objs.size := Heap.lt_size hPs
  have hP2 : (s1.heap.push o).get? P = some { cls := .none, data := .fields ps } := Heap.get?_push_of_some _ hPs
  have cd : PySem.W.CodeHd (s1.heap.push o) c P := TB.code.keeps fun b u e => Heap.get?_push_of_some _ (I1.bk b u e)
  have lim2 : (s1.heap.push o).NoLimit := I1.nolimit.push o
  have cont : ∀ (code : Value) (h3 : Heap) (tk : Nat) (ps' : Array Value) (H2 : Hp), Heap.ExtBut P (s1.heap.push o) h3 → (s1.heap.push o).objs.size ≤ h3.objs.size → h3.get? P = some { cls := .none, data := .fields ps' } → H2 P = some (.tbl ps') →
      Inv X pins σ H2 { s1 with heap := h3, toks := tk } → LamX.ExtN H1 H2 → LamX.Tabs T H2 → H2 s1.heap.objs.size = none →
      wpAny (model X.prog X.w) X.A (builtinsFor X.env.globals X.env.builtins) (fun bi s₄ =>
        ∃ Ia fp wr n₀ Pf St₀ Mid pz F, Value.ref s1.heap.objs.size = .ref Ia ∧ (∀ A' : Around, A'.handled = none → WalksU X.prog X.w A' Ia fp wr n₀ Pf St₀ Mid) ∧ (∀ i vals, Pf i vals → ∃ va vb, vals = #[va, vb]) ∧ St₀ 0 s₄.heap ∧ (∀ b ∈ fp, b < s₄.heap.objs.size) ∧ s₄.heap.NoLimit ∧ cStatics ∉ wr ∧
          (∀ href : Heap, (∀ b o, s₄.heap.get? b = some o → href.get? b = some o) →
            QuietGenT X.prog X.w (genEnv scope (cloFrom X.env.cells scope.names []) s₄.heap.objs.size code bi X.env) xa xb [] elt (List.range s₄.heap.objs.size) wr Pf pz F href) ∧
          (∀ a h₅ tk gs, gs.bare = true → s₄.heap.objs.size < a → h₅.objs.size = a + 1 → (∀ b o, s₄.heap.get? b = some o → h₅.get? b = some o) →
            WalksS X.prog X.w X.A.in4 a (a :: s₄.heap.objs.size :: List.range s₄.heap.objs.size) (s₄.heap.objs.size :: wr) (GenOnlyQ s₄.gens.size) (passing pz n₀ 0).length
              (fun j y => ∃ i, (passing pz n₀ 0)[j]? = some i ∧ F i y) (GenAt X.prog X.w X.A.in4 a s₄.gens.size s₄.heap.objs.size (List.range s₄.heap.objs.size) wr pz n₀ F) →
            GenAt X.prog X.w X.A.in4 a s₄.gens.size s₄.heap.objs.size (List.range s₄.heap.objs.size) wr pz n₀ F 0 { s₄ with gens := s₄.gens.push gs, toks := tk, heap := h₅ } →
            Q' (.ref a) { s₄ with gens := s₄.gens.push gs, toks := tk, heap := h₅ })) X.xe { s1 with heap := h3, toks := tk } := by
    intro code h3 tk ps' H2 hx hsz hP3 hH2 I3 hE hT2 hI2
    obtain ⟨bm, ob, e1, e2, e3, e4, e5, e6, e7, e8⟩ := TB.bm
    have hcP : cStatics ≠ P := fun e => by
      obtain ⟨_, hns, _⟩ := I1.nolimit
      obtain ⟨o', es, ep, ho, hd, _⟩ := hns
      rw [e, hPs] at ho
      cases ho
      cases hd
    have hcl : cStatics < s1.heap.objs.size := let ⟨_, hns, _⟩ := I1.nolimit; hns.lt
    have sz2 : (s1.heap.push o).objs.size = s1.heap.objs.size + 1 := Heap.size_push ..
    have keep3 : ∀ b u, b ≠ P → s1.heap.get? b = some u → h3.get? b = some u := fun b u hb e => hx b u hb (Heap.get?_push_of_some _ e)
    refine wpAny_builtinsFor (m := X.mg) (by rw [I1.ok.glob]; exact ((I1.mod.glob.keeps I1.bk).push o).extBut hx TB.gP) e1 e2 (keep3 _ _ e4 (I1.bk _ _ e5)) e6 e7 e8 ?_
    have hylP : yl ≠ P := fun z => by
      obtain ⟨_, e, hc1, _, hd1⟩ := _root_.id hIL
      rw [z, hPs] at e
      cases e
      cases hd1
    have hIL3 : h3.IsTuple yl its.toArray := by
      obtain ⟨ob, e, r⟩ := _root_.id hIL
      exact ⟨ob, keep3 _ _ hylP e, r⟩
    have hItr3 : h3.IsTupleIter s1.heap.objs.size yl 0 := by
      obtain ⟨ob, e, r⟩ := hitr
      exact ⟨ob, hx _ _ (Nat.ne_of_gt hPlt) e, r⟩
    have tup3 : ∀ {t0 : Addr} {its0 : Array Value}, s1.heap.IsTuple t0 its0 → h3.IsTuple t0 its0 := fun {t0 its0} ⟨ob, e, hc1, n0, hd1⟩ => by
      refine ⟨ob, keep3 _ _ (fun z => ?_) e, hc1, n0, hd1⟩
      rw [z, hPs] at e
      cases e
      cases hd1
    refine ⟨s1.heap.objs.size, s1.heap.objs.size :: yl :: (List.range its.toArray.size).map Ts, [s1.heap.objs.size], its.toArray.size, (fun j v => j < its.toArray.size ∧ v = vals j), (fun j h => h.IsTupleIter s1.heap.objs.size yl j ∧ h.IsTuple yl its.toArray ∧ ∀ k, k < its.toArray.size → h.IsTuple (Ts k) (vals k)),
      (fun j T h => (j < its.toArray.size ∧ T = Ts j) ∧ h.IsTupleIter s1.heap.objs.size yl (j + 1) ∧ h.IsTuple yl its.toArray ∧ ∀ k, k < its.toArray.size → h.IsTuple (Ts k) (vals k)), (fun _ => true), (fun i y => ∃ n t, ns[i]? = some n ∧ y = .int n t), rfl, (fun A' hA => ?_), (fun i vs hv => ?_), ⟨hItr3, hIL3, fun k hk => ?_⟩, ?_, lim2.extBut hx hcP, ?_, ?_, ?_⟩
    · exact walks_pairs2 hA _ _ (Nat.ne_of_lt hylt) _ Ts vals (fun j hj => by
        obtain ⟨_, _, _, _, e, _⟩ := hvals j (by simpa using hj)
        simpa using e) fun j hj => by
        obtain ⟨_, _, _, _, _, ⟨_, e, _⟩, _⟩ := hvals j (by simpa using hj)
        exact Nat.ne_of_lt (Heap.lt_size e)
    · obtain ⟨ua, ub, _, e, _⟩ := hvals i (by simpa using hv.1)
      exact ⟨ua, ub, by rw [hv.2, e]⟩
    · obtain ⟨ua, ub, _, e, _, hT3, _⟩ := hvals k (by simpa using hk)
      rw [e]; exact tup3 hT3
    · intro b hb
      have e9 : s1.heap.objs.size < h3.objs.size := by omega
      show b < h3.objs.size
      rcases List.mem_cons.mp hb with z | z
      · rw [z]; exact e9
      · rcases List.mem_cons.mp z with z | z
        · rw [z]; exact Nat.lt_trans hylt e9
        · obtain ⟨j, hj, e⟩ := List.mem_map.mp z
          obtain ⟨_, _, _, _, _, ⟨_, e2, _⟩, _⟩ := hvals j (by simpa using hj)
          rw [← e]; exact Nat.lt_trans (Heap.lt_size e2) e9
    · intro z
      rcases List.mem_cons.mp z with z | z
      · exact Nat.ne_of_lt hcl z
      · cases z
    · intro href hhref
      refine ⟨fun A' E' i va vb s₂ m₂ hA hPv hn hm hm' hk => ?_, fun A' E' i va vb s₂ m₂ hA hPv hp hn hm hm' hk => ?_⟩
      · simp only [List.forIn_nil]
        exact wpAny_pure ⟨rfl, GxR.keeps_refl _⟩
      · obtain ⟨ua, ub, n, e, _, _, hn0, hkv⟩ := hvals i (by simpa using hPv.1)
        have e' : #[va, vb] = #[ua, ub] := by rw [hPv.2, e]
        cases e'
        have up : ∀ b o, h3.get? b = some o → b ≠ s1.heap.objs.size → s₂.heap.get? b = some o := fun b o e n => hk b (List.mem_range.mpr (Heap.lt_size e)) (fun z => by
          rcases List.mem_cons.mp z with z | z
          · exact n z
          · cases z) o (hhref b o e)
        have hkv2 := hst _ s₂.heap _ _ _ hkv fun t0 its0 ht0 => by
          obtain ⟨ob, e, r⟩ := tup3 ht0
          obtain ⟨_, e0, _⟩ := ht0
          exact ⟨ob, up _ _ e (Nat.ne_of_lt (Heap.lt_size e0)), r⟩
        refine wpAny_mono (hel _ A' E' va vb n s₂ m₂ hA I1.mod rfl I1.ok.glob rfl (fun b o e => ?_) hkv2 hn hm hm') (fun y s3 r => ⟨⟨n, r.1.choose, hn0, r.1.choose_spec⟩, r.2⟩) fun _ _ e => e
        have e1' := I1.bk b o e
        exact up b o (keep3 b o (fun z => by
          have e9 := (I1.bs b o e).2
          rw [z, hP] at e9
          cases e9) e1') (Nat.ne_of_lt (Heap.lt_size e1'))
    · intro g h5 tk5 gs hgb hag hsz5 hk5 W5 hgat
      simp only [GxR.passing_true, List.length_range] at W5
      have hn5 : its.toArray.size = ns.length := by rw [List.size_toArray, hlen, hnl]
      rw [hn5] at W5 hgat
      refine hQ ns H1 g _ q1 ⟨_, _, _, _, _, W5, hgat, ?_, List.mem_cons_self, fun i s9 h9 => ?_, ?_, fun s' hm => ?_⟩
      · intro b hb
        show b < h5.objs.size
        have e5 : h5.objs.size = g + 1 := hsz5
        have h8 : h3.objs.size < g := hag
        rw [e5]
        rcases List.mem_cons.mp hb with z | z
        · rw [z]
          exact Nat.lt_succ_self g
        · rcases List.mem_cons.mp z with z | z
          · rw [z]
            exact Nat.lt_succ_of_lt h8
          · have z2 := List.mem_range.mp z
            have h7 : b < h3.objs.size := z2
            exact Nat.lt_succ_of_lt (Nat.lt_trans h7 h8)
      · obtain ⟨hg9, _⟩ := h9
        exact hg9.typeIs
      · intro j v hv
        obtain ⟨i, hij, n, t, ha, e⟩ := hv
        obtain ⟨hj, ej⟩ := List.getElem?_eq_some_iff.mp hij
        rw [List.getElem_range] at ej
        subst ej
        exact ⟨n, t, ha, e⟩
      · have out : ∀ b u, h3.get? b = some u → b ≠ s1.heap.objs.size → b ∉ h3.objs.size :: [s1.heap.objs.size] := fun b u e n hb => by
          have hl := Heap.lt_size e
          rcases List.mem_cons.mp hb with z | z
          · rw [z] at hl
            exact Nat.lt_irrefl _ hl
          · rcases List.mem_cons.mp z with z | z
            · exact n z
            · cases z
        have hm1 : ∀ b u, h3.get? b = some u → b ≠ s1.heap.objs.size → s'.heap.get? b = some u := fun b u e n => hm.heap b u (out b u e n) (hk5 b u e)
        have nP : P ≠ s1.heap.objs.size := Nat.ne_of_lt hPlt
        obtain ⟨f0, f1, f2, f3, f4, f5⟩ := I1.fpOk (H' := H2) (Nat.le_refl _) hI2
        have I4 := I3.turned (h' := s'.heap) (t' := s'.toks) (fun b u hb e => hm1 b u e hb) f0 f1 f3 f4 f5
        have J := GxR.inv_tab (more := #[]) (h' := s'.heap) (g' := s'.gens) (d' := s'.drawn) (t' := s'.toks) I4 hH2 (fun b u hb e => e)
          (by rw [Array.append_empty]; exact hm1 P _ hP3 nP) (AllBare.movedS (I3.bare.push hgb) hm)
        rw [GxR.sh_eta _ s' hm.os] at J
        have eq : upd H2 P (.tbl (ps' ++ #[])) = H2 := by
          funext b
          by_cases z : b = P
          · rw [z, upd_same, hH2, Array.append_empty]
          · rw [upd_ne z]
        rw [eq] at J
        exact ⟨H2, hE, hT2, J⟩
  refine ⟨lim2, ?_⟩
  cases hf : codeAmong gpos ps.toList with
  | none =>
    refine wpAny_genexprCodeX hcode (cd.code hP2 ht) (cd.tab hP2) hf fun c' h' tk hx hge hlt hco' hrec htab' _ => ?_
    obtain ⟨o1, vs, f1, tf, fl, tg, inF, tx, tt, op, _, _, _, _, _, _, _, _, _, htr, _⟩ := hco'
    have sz2 : (s1.heap.push o).objs.size = s1.heap.objs.size + 1 := Heap.size_push ..
    have hge0 : (s1.heap.push o).objs.size ≤ c' := hge
    have hge' : s1.heap.objs.size ≤ c' := by omega
    obtain ⟨c2, oc, cvs, ct, e2, hoc, hcd, hcv⟩ := hrec
    cases e2
    have nC : H1 c' = none := I1.hok.fresh hge'
    have I3 := LamX.inv_table (t' := tk) (more := #[rawInt gpos.line, rawInt gpos.col, .ref c']) (h' := h') I1 hP (fun b u hb e => hx b u hb (Heap.get?_push_of_some _ e)) htab'.2 hge' ⟨oc, cvs, ct, hoc, hcd, hcv⟩
    have hE : LamX.ExtN H1 (upd (upd H1 P (.tbl (ps ++ #[rawInt gpos.line, rawInt gpos.col, .ref c']))) c' (LamX.CodeO c' (X.env.qual ++ "<genexpr>"))) := fun b o e n => by
      rw [upd_ne (ne_of_none e nC), upd_ne (fun z => n ps (Option.some.inj (e.symm.trans (by rw [z]; exact hP))))]
      exact e
    have eL : (ps ++ #[rawInt gpos.line, rawInt gpos.col, .ref c']).toList = ps.toList ++ [rawInt gpos.line, rawInt gpos.col, .ref c'] := by simp
    refine cont _ h' tk _ _ hx (Nat.le_trans hge (Nat.le_of_lt hlt)) htab'.2 (by rw [upd_ne (ne_of_none hP nC), upd_same]) I3 hE (fun p hp => ?_) (by rw [upd_ne (Nat.ne_of_lt (by omega)), upd_ne (Nat.ne_of_gt hPlt)]; exact I1.hok.fresh (Nat.le_refl _))
    by_cases hb : p.1 = P
    · rw [hu p hp hb, hb]
      refine ⟨_, by rw [upd_ne (ne_of_none hP nC), upd_same], htr, fun p' cv hcv => ?_⟩
      rw [eL] at hcv
      rcases LamX.among_app _ ht hcv with z | z
      · obtain ⟨c0, e1, e2⟩ := hca p' cv z
        exact ⟨c0, e1, hE _ _ e2 LamX.codeO_ne⟩
      · exact ⟨c', z, upd_same⟩
    · obtain ⟨ps', a1, a2, a3⟩ := hT p hp
      refine ⟨ps', by rw [upd_ne (ne_of_none a1 nC), upd_ne hb]; exact a1, a2, fun p' cv hcv => ?_⟩
      obtain ⟨c0, e1, e2⟩ := a3 p' cv hcv
      exact ⟨c0, e1, hE _ _ e2 LamX.codeO_ne⟩
  | some cv =>
    refine wpAny_genexprCode_hit hcode (cd.code hP2 ht) hf ?_
    exact cont cv (s1.heap.push o) s1.toks ps H1 (Heap.ExtBut.refl _ _) (Nat.le_refl _) hP2 hP (I1.kept fun b u e => Heap.get?_push_of_some _ e) (LamX.ExtN.refl H1) hT (I1.hok.fresh (Nat.le_refl _))
/-- sum(.. for xa, xb in te), te a tuple of pairs -/
def tSumP (K : PySem.W.Frag) (T : Tb) (KVV : Hp → V → V → Int → Prop) (te : TE) : TE := fun σ H Q => te σ H fun v H1 => ∃ (yl : Addr) (xs : List V) (ns : List Int), v = .ref yl ∧ SqT K H1 yl xs ∧ ns.length = xs.length ∧
  (∀ (j : Nat) (v : V) (n : Int), xs[j]? = some v → ns[j]? = some n → ∃ (a : Addr) (p q : V), v = .ref a ∧ SqT K H1 a [p, q] ∧ KVV H1 p q n) ∧ LamX.Tabs T H1 ∧
  ((∀ n ∈ ns, 0 ≤ n ∧ n < 2 ^ 40) ∧ ns.length < 2 ^ 20 ∧ ∀ H2, LamX.ExtN H1 H2 → LamX.Tabs T H2 → Q (.int ns.sum) H2)
theorem preSum_sum (ns : List Int) (val : Nat → Int) (h : ∀ j n, ns[j]? = some n → val j = n) : ∀ k, k ≤ ns.length → preSum val k = (ns.take k).sum
  | 0, _ => by simp [preSum]
  | k + 1, hk => by
    have ih := preSum_sum ns val h k (by omega)
    have e : ns[k]? = some (ns[k]'(by omega)) := List.getElem?_eq_getElem _
    rw [preSum, ih, h k _ e, List.take_add_one, e, Option.toList_some, List.sum_append]
    simp
theorem sum_bnd : ∀ {ns : List Int}, (∀ n ∈ ns, 0 ≤ n ∧ n < 2 ^ 40) → 0 ≤ ns.sum ∧ ns.sum ≤ ns.length * 2 ^ 40
  | [], _ => by simp
  | n :: ns, h => by
    obtain ⟨h1, h2⟩ := sum_bnd fun m hm => h m (List.mem_cons_of_mem _ hm)
    obtain ⟨h3, h4⟩ := h n (List.mem_cons_self ..)
    rw [List.sum_cons, List.length_cons]
    push_cast
    omega
theorem pe_sumP {T : Tb} {c P : Addr} {elt iter : Expr} {xa xb : Str} {pa pb pt p pos gpos : Pos} {kt : Nat} {scope : Scope} {KV : Heap → Value → Value → Int → Prop} {KVV : Hp → V → V → Int → Prop} {te : TE} {k : Nat}
    (hr : Room k X.A) (hg : Gl X "sum") (hm : X.mg "sum" = none) (TB : LamX.TabB X.base X.mg c P) (hcode : X.env.code = .ref c) (hmT : (P, X.env.qual ++ "<genexpr>") ∈ T) (hu : ∀ p ∈ T, p.1 = P → p.2 = X.env.qual ++ "<genexpr>")
    (S : GxR.GenS X.env scope xa) (Sb : scope.names.lookup xb = some .local) (hab : xa ≠ xb) (hi : PE X iter te) (hel : EltP X scope xa xb elt KV)
    (hst : ∀ h h' ua ub n, KV h ua ub n → (∀ t its, h.IsTuple t its → h'.IsTuple t its) → KV h' ua ub n) (hKV : ∀ pins s σ H p q n ua ub, Inv X pins σ H s → KVV H p q n → RelV p ua → RelV q ub → KV s.heap ua ub n)
    (hs : ∀ v, genFold iter X.env v = pure v)
    (he : starEach [.GeneratorExp elt [⟨.Tuple [.Name xa pa, .Name xb pb] kt pt, iter, [], 0⟩] scope gpos] X.env = (false, eval (.GeneratorExp elt [⟨.Tuple [.Name xa pa, .Name xb pb] kt pt, iter, [], 0⟩] scope gpos) X.env) :: starEach [] X.env := by rfl) :
    PE X (.Call (.Name "sum" p) [.GeneratorExp elt [⟨.Tuple [.Name xa pa, .Name xb pb] kt pt, iter, [], 0⟩] scope gpos] [] pos) (tSumP X.K T KVV te) := by
  refine ⟨fun pins s σ H Q I h => ?_⟩
  refine wpAny_Call_Name_kw (ld_blt I hg hm boot_sum ?_)
  refine PyProof.Rows.callWith_builtin1 ?_ he (by rfl)
  rw [he]
  show wpAny _ _ (spliced ((false, eval (.GeneratorExp elt [⟨.Tuple [.Name xa pa, .Name xb pb] kt pt, iter, [], 0⟩] scope gpos) X.env) :: backTo pos (starEach [] X.env))) _ _ s
  refine Calls.spliced_cons (gen_pairs (T := T) (R := fun ns H1 => (∀ n ∈ ns, 0 ≤ n ∧ n < 2 ^ 40) ∧ ns.length < 2 ^ 20 ∧ ∀ H2, LamX.ExtN H1 H2 → LamX.Tabs T H2 → Q (.int ns.sum) H2) hr TB hcode hmT hu S Sb hab hi hel hst hKV hs I h fun ns H1 gn s5 hR hG => ?_)
  obtain ⟨fp, wr, G, F, St, W, hst5, hfp, _, _, hF, hI⟩ := hG
  obtain ⟨hb, hlen, hR⟩ := hR
  refine Calls.spliced_nil ?_
  have W1 := W.in4_1
  have hval : ∀ j n, ns[j]? = some n → ns.getD j 0 = n := fun j n e => by rw [List.getD_eq_getElem?_getD, e]; rfl
  have hps := preSum_sum ns (fun j => ns.getD j 0) hval
  refine call_sum_walkS (W1.self 0 _ _ _ hst5 ⟨gn, fp, wr, G, _, F, St, (fun j => ns.getD j 0), rfl, W1, hst5, hfp, fun j y hy => ?_, fun j hj => ?_, fun s' t' hmv => ?_⟩)
  · obtain ⟨n, t, hn, e⟩ := hF j y hy
    exact ⟨t, by rw [e]; show _ = Value.int (ns.getD j 0) t; rw [hval j n hn]⟩
  · have e : ns[j]? = some (ns[j]'hj) := List.getElem?_eq_getElem _
    obtain ⟨h1, h2⟩ := hb _ (List.mem_of_getElem? e)
    have hbt : ∀ n ∈ ns.take (j + 1), 0 ≤ n ∧ n < 2 ^ 40 := fun n hn => hb n (List.mem_of_mem_take hn)
    obtain ⟨h3, h4⟩ := sum_bnd hbt
    have h5 : (ns.take (j + 1)).length ≤ ns.length := by rw [List.length_take]; exact Nat.min_le_right _ _
    refine ⟨by show InLong (ns.getD j 0); rw [hval j _ e]; exact ⟨by omega, by omega⟩, by rw [hps (j + 1) hj]; exact ⟨by omega, by omega⟩⟩
  · obtain ⟨H2, hE, hT2, J⟩ := hI s' hmv
    refine ⟨.int ns.sum, H2, J, ⟨t', ?_⟩, hR H2 hE hT2⟩
    rw [hps ns.length (Nat.le_refl _), List.take_length]
end
end Ts


/-! CELL + len(a) + len(b) as the element of a sum. -/
namespace Ts
open PySem PySem.Spec PyProof.Rows L2
def KVlen (c : Int) : Heap → Value → Value → Int → Prop := fun h ua ub n => ∃ (a b : Addr) (ta tb : Array Value), ua = .ref a ∧ ub = .ref b ∧ h.IsTuple a ta ∧ h.IsTuple b tb ∧ (ta.size : Int) < 2 ^ 63 ∧ (tb.size : Int) < 2 ^ 63 ∧ n = c + ta.size + tb.size
theorem kvlen_st {c : Int} : ∀ h h' ua ub n, KVlen c h ua ub n → (∀ t its, h.IsTuple t its → h'.IsTuple t its) → KVlen c h' ua ub n := fun h h' ua ub n ⟨a, b, ta, tb, e1, e2, h1, h2, r⟩ k => ⟨a, b, ta, tb, e1, e2, k _ _ h1, k _ _ h2, r⟩
def KVVlen (K : PySem.W.Frag) (c : Int) : Hp → V → V → Int → Prop := fun H p q n => ∃ (a b : Addr) (xs ys : List V), p = .ref a ∧ q = .ref b ∧ SqT K H a xs ∧ SqT K H b ys ∧ n = c + xs.length + ys.length
theorem kvv_len {X : Cx} {c : Int} : ∀ pins s σ H p q n ua ub, Inv X pins σ H s → KVVlen X.K c H p q n → RelV p ua → RelV q ub → KVlen c s.heap ua ub n := fun pins s σ H p q n ua ub I ⟨a, b, xs, ys, e1, e2, h1, h2, e3⟩ r1 r2 => by
  subst e1; subst e2
  obtain rfl : ua = Value.ref a := r1
  obtain rfl : ub = Value.ref b := r2
  obtain ⟨i1, v1, t1, z1⟩ := I.tuple h1
  obtain ⟨i2, v2, t2, z2⟩ := I.tuple h2
  have hn := line63
  have l1 := v1.length
  have l2 := v2.length
  exact ⟨a, b, _, _, rfl, rfl, t1, t2, by simp only [List.size_toArray]; omega, by simp only [List.size_toArray]; omega, by rw [e3]; simp only [List.size_toArray]; omega⟩
theorem elt_len {X : Cx} {scope : Scope} {x : Str} {p2 p3 p4 : Pos} (hl : scope.names.lookup x = some .local) (hk : scope.kind = .function) (hd : (x == ("__debug__" : Str)) = false) (gL : ∀ cenv : Env, cenv.scope = scope → cenv.kindOf "len" = some .globalImplicit) (mL : X.mg "len" = none)
    {cenv : Env} {A' : Around} {E' : Value → Shared → Prop} {a : Addr} {ta : Array Value} {s₂ : Shared} {m₂ : Str → Option Value} {Q : Value → Shared → Prop} (M : Mod X.K X.mg X.base) (hs : cenv.scope = scope) (hg : cenv.globals = mainGlobals) (hb : cenv.builtins = builtinsNs)
    (kp : ∀ b o, X.base.get? b = some o → s₂.heap.get? b = some o) (ht : s₂.heap.IsTuple a ta) (hz : (ta.size : Int) < 2 ^ 63) (hn : s₂.heap.Ns cenv.locals m₂) (hm : m₂ x = some (.ref a)) (h : ∀ t k, Q (.int ta.size t) { s₂ with toks := k }) :
    wpAny (model X.prog X.w) A' (eval (.Call (.Name "len" p2) [.Name x p3] [] p4) cenv) Q E' s₂ := by
  obtain ⟨mb, h1, h2⟩ := M.blt
  refine wpAny_Call_Name_kw (Calls.Name_function_global (by rw [hs]; exact hk) (gL _ hs) (Calls.loadGlobal_builtin (by rw [hg]; exact M.glob.keeps kp) mL (by rw [hb]; exact h1.keeps kp) ((h2 "len" (by decide)).trans boot_len) ?_) (by decide))
  have he : starEach [.Name x p3] cenv = (false, eval (.Name x p3) cenv) :: starEach [] cenv := by rfl
  refine PyProof.Rows.callWith_builtin1 ?_ he (by rfl)
  rw [he]
  show wpAny _ _ (spliced ((false, eval (.Name x p3) cenv) :: backTo p4 (starEach [] cenv))) _ _ s₂
  refine Calls.spliced_cons (wpAny_Name (wpAny_loadName_local (by rw [hs]; exact hk) (show cenv.scope.names.lookup x = some .local by rw [hs]; exact hl) hn hm ?_) hd)
  refine Calls.spliced_nil ?_
  exact len_tuple ht hz (h _ _)
theorem elt_cell {X : Cx} {scope : Scope} {xa xb cn : Str} {c : Int} {p1 p2 p3 p4 p5 p6 p7 p8 p9 : Pos} (hk : scope.kind = .function) (hla : scope.names.lookup xa = some .local) (hlb : scope.names.lookup xb = some .local)
    (gC : ∀ cenv : Env, cenv.scope = scope → cenv.kindOf cn = some .globalImplicit) (gL : ∀ cenv : Env, cenv.scope = scope → cenv.kindOf "len" = some .globalImplicit) (mC : ∃ t, X.mg cn = some (.int c t)) (mL : X.mg "len" = none)
    (d1 : (xa == ("__debug__" : Str)) = false := by decide) (d2 : (xb == ("__debug__" : Str)) = false := by decide) (d3 : (cn == ("__debug__" : Str)) = false := by decide) :
    EltP X scope xa xb (.BinOp (.BinOp (.Name cn p1) .Add (.Call (.Name "len" p2) [.Name xa p3] [] p4) p5) .Add (.Call (.Name "len" p6) [.Name xb p7] [] p8) p9) (KVlen c) := by
  intro cenv A' E' ua ub n s₂ m₂ hA M hs hg hb kp hkv hn hma hmb
  obtain ⟨a, b, ta, tb, rfl, rfl, h1, h2, z1, z2, rfl⟩ := hkv
  obtain ⟨tc, mC⟩ := mC
  refine wpAny_BinOp (wpAny_BinOp (Calls.Name_function_global (by rw [hs]; exact hk) (gC _ hs) (Calls.loadGlobal_global (by rw [hg]; exact M.glob.keeps kp) mC ?_) d3))
  refine elt_len hla hk d1 gL mL M hs hg hb kp h1 z1 hn hma fun t k => ?_
  refine add_int ?_
  refine elt_len (s₂ := { s₂ with toks := k + 1 }) hlb hk d2 gL mL M hs hg hb kp h2 z2 hn hmb fun t' k' => ?_
  exact add_int ⟨⟨_, rfl⟩, GxR.keeps_tok s₂ _⟩
/-! ### by data -/
section
variable [Tt] {K : PySem.W.Frag} {E : L2.St → XK} {Δ : En} {te : TE} {X : Addr → Prop}
abbrev cellD (p : List D × List D) : D := .tup [.tup p.1, .tup p.2]
theorem ev_sumP {c : Int} {ps : List (List D × List D)} (h : Ev K E te Δ (· = .tup (ps.map cellD)) X) (hc : 0 ≤ c) (hb : ∀ p ∈ ps, c + p.1.length + p.2.length < 2 ^ 40) (hl : ps.length < 2 ^ 20) :
    Ev K E (tSumP K Tt.tb (KVVlen K c) te) Δ (· = .int (ps.map fun p => c + (p.1.length : Int) + (p.2.length : Int)).sum) X := fun q G0 H0 G H σ Q s k kx =>
  h q G0 H0 G H σ _ s (fun v d G1 H1 g1 r1 p1 => by
    subst p1
    obtain ⟨a, xs, rfl, hx, rl⟩ := r1.tup_inv
    have hlen : xs.length = ps.length := by rw [rl.length, List.length_map]
    refine ⟨a, xs, ps.map fun p => c + (p.1.length : Int) + (p.2.length : Int), rfl, st_ex g1.sub hx, by rw [List.length_map, hlen], fun j v n hv hn => ?_, (s.go g1).rs.tb, ⟨fun n hn => ?_, by rw [List.length_map]; exact hl, fun H2 e t => ?_⟩⟩
    · rw [List.getElem?_map] at hn
      obtain ⟨p, hp, rfl⟩ := Option.map_eq_some_iff.mp hn
      obtain ⟨d, hd, rd⟩ := rl.getV hv
      rw [List.getElem?_map, hp] at hd
      obtain rfl : cellD p = d := Option.some.inj hd
      obtain ⟨b, ys, rfl, hy, ry⟩ := rd.tup_inv
      cases ry with
      | cons ra rr =>
        cases rr with
        | cons rb rr =>
          cases rr
          obtain ⟨a1, us, rfl, hus, ru⟩ := ra.tup_inv
          obtain ⟨a2, ws, rfl, hws, rw_⟩ := rb.tup_inv
          exact ⟨b, _, _, rfl, st_ex g1.sub hy, a1, a2, us, ws, rfl, rfl, st_ex g1.sub hus, st_ex g1.sub hws, by rw [ru.length, rw_.length]⟩
    · obtain ⟨p, hp, rfl⟩ := List.mem_map.mp hn
      have := hb p hp
      exact ⟨by omega, by omega⟩
    · exact k _ _ G1 H2 (s.tr g1 (.tabs g1.sub e t)) (.int _) rfl) kx
end
end Ts


/-! Objects that are made once and stay as they are. -/
namespace Ts
open PySem L2
section
variable [Tt] {K : PySem.W.Frag} {E : L2.St → XK} {Δ : En} {te : TE} {X : Addr → Prop}
/-- an __init__ of data: self is new and empty, the end: its fields stand for fs -/
def spNew (K : PySem.W.Frag) (C : Addr) (pre : List D → Prop) (fs : List D → List (Str × D)) : Sp := fun vs H Q E => ∃ (G : Hp) (x dx : Addr) (ws : List V) (ds : List D), vs = .ref x :: ws ∧ H x = some (.ins C dx []) ∧ Nt G x ∧
  Exx G H ∧ TbOk H ∧ RpL K G ws ds ∧ pre ds ∧
  ∀ (G' H' : Hp) (dx' : Addr) (us : List (Str × V)), Exx G G' → (∀ a o, G' a = some o → G a = some o ∨ Nt H a) → Exx G' H' → (∀ a o, a ≠ x → H a = some o → (∀ ps, o ≠ HO.tbl ps) → H' a = some o) → TbOk H' → Nt G' x → H' x = some (.ins C dx' us) → RpF K G' us (fs ds) → Q .non H'
theorem ev_makeR {C : Addr} {tr : TA} {Rs : List D → Prop} {R : D → Prop} {pre : List D → Prop} {fs : List D → List (Str × D)} {E' : XK} (h : Ea K E tr Δ Rs X) (hp : ∀ ds, Rs ds → pre ds) (hr : ∀ ds, Rs ds → R (.obj C (fs ds))) :
    Ev K E (tMake C (spNew K C pre fs) [] E' tr) Δ R X := fun q G0 H0 G H σ Q s k kx =>
  h q G0 H0 G H σ _ s (fun vs ds' G1 H1 g1 r1 p1 => by
    intro x dx hx hdx hne
    have s1 := s.go g1
    have nG : ∀ {a : Addr}, H1 a = none → Nt G1 a := fun {a} ha o c => Classical.byContradiction fun n => by
      rw [g1.sub a o c (fun ps z => n ⟨ps, z⟩)] at ha; cases ha
    have nop : ∀ {a b : Addr} {o : HO}, H1 b = none → G1 a = some o → (∀ ps, o ≠ HO.tbl ps) → a ≠ b := fun {a b o} hb e nt z => by
      rw [z] at e
      obtain ⟨ps, h⟩ := nG hb _ e
      exact nt ps h
    rw [List.append_nil]
    refine ⟨G1, x, dx, vs, _, rfl, upd_same, nG hx, fun a o e nt => ?_, Tbd.new (by rw [upd_ne (fun z => hne z.symm)]; exact hx) (Tbd.new hdx s1.rs.tb), r1, hp _ p1, fun G' H' dx' us e1 nw e2 kp tb nx hx' rf => ⟨rfl, ?_⟩⟩
    · rw [upd_ne (nop hx e nt), upd_ne (nop hdx e nt)]
      exact g1.sub a o e nt
    · have exn : Exx G' (upd G' x (.ins C dx' us)) := fun a o e nt => by
        have : a ≠ x := fun z => by
          rw [z] at e
          obtain ⟨ps, h⟩ := nx _ e
          exact nt ps h
        rw [upd_ne this]; exact e
      have g : Gr none G1 H1 (upd G' x (.ins C dx' us)) H' := by
        refine ⟨e1.trans exn, fun a o e => ?_, fun a o e nt => ?_, fun a o _ e nt => ?_, fun _ => tb, fun _ z => nomatch z⟩
        · by_cases c : a = x
          · rw [c]; exact .inr (.of hx)
          · rw [upd_ne c] at e
            rcases nw a o e with h | h
            · exact .inl h
            · refine .inr fun o' e' => h o' ?_
              rw [upd_ne c]
              by_cases c2 : a = dx
              · rw [c2, hdx] at e'; cases e'
              · rw [upd_ne c2]; exact e'
        · by_cases c : a = x
          · rw [c, upd_same] at e
            rw [c, ← e]; exact hx'
          · rw [upd_ne c] at e
            exact e2 a o e nt
        · have c : a ≠ x := fun z => by rw [z, hx] at e; cases e
          have c2 : a ≠ dx := fun z => by rw [z, hdx] at e; cases e
          exact kp a o c (by rw [upd_ne c, upd_ne c2]; exact e) nt
      exact k _ _ _ H' (s.tr g1 g.any) (.obj upd_same (rf.ex exn)) (hr _ p1)) kx
theorem ev_make {C : Addr} {tr : TA} {ds : List D} {pre : List D → Prop} {fs : List D → List (Str × D)} {E' : XK} (h : Ea K E tr Δ (· = ds) X) (hp : pre ds) :
    Ev K E (tMake C (spNew K C pre fs) [] E' tr) Δ (· = .obj C (fs ds)) X := ev_makeR h (fun _ e => by rw [e]; exact hp) fun _ e => by rw [e]
/-- o.m(..) of a frozen object; the method raises nothing -/
theorem ev_meth {ta : TE} {tr : TA} {C : Addr} {m : Str} {fs : List (Str × D)} {ds : List D} {pre : List D → Prop} {post : List D → Res → Prop} {d : D} {E' : XK} (h : Ev K E ta Δ (· = .obj C fs) X) (hm : fs.lookup m = none) (ha : Ea K E tr Δ (· = ds) X)
    (hp : pre (.obj C fs :: ds)) (hr : ∀ e, post (.obj C fs :: ds) (.ret e) → e = d) (hx : ∀ B, post (.obj C fs :: ds) (.exc B) → False) : Ev K E (tMeth C m (spD K pre post) [] E' ta tr) Δ (· = d) X := fun q G0 H0 G H σ Q s k kx =>
  h q G0 H0 G H σ _ s (fun v o G1 H1 g1 r1 p1 => by
    subst p1
    have r1' := r1
    obtain ⟨a, dx, vs, rfl, hi, rf⟩ := r1.obj_inv
    refine ⟨a, dx, vs, rfl, g1.sub.i hi, rf.lookN hm, ?_⟩
    refine ha q G0 H0 G1 H1 σ _ (s.go g1) (fun us ds' G2 H2 g2 r2 p2 => ?_) fun C G' H' g x => kx C G' H' (s.tr g1 g) x
    subst p2
    have s2 := s.go (s.tr g1 g2)
    rw [List.append_nil]
    exact ⟨G2, _, g2.sub, s2.rs.tb, .cons (r1'.ex g2.ex) r2, hp, fun v e G' H' g rd po => k v e G' H' (s.tr (s.tr g1 g2) g.any) rd (hr e po), fun B G' H' g po => (hx B po).elim⟩) kx
/-- self.f = e within an __init__ -/
theorem sfld_step {Z : Ends} {x C dx : Addr} {f : Str} {vs : List (Str × V)} {d : D} {σ : L2.St} {G H : Hp} (hσ : σ[0]? = some (some (V.ref x))) (hx : H x = some (.ins C dx vs)) (nG : Nt G x) (st : Rs K none H G H σ Δ) (no : ∀ (i : Nat) (ds : List Ts.D), Δ[i]? ≠ some (Sl.own ds))
    (h : Ev K E te Δ (· = d) fun _ => False) (c : Cls K C) (n : NoAttr K C f) (l : vs.length < 1000)
    (k : ∀ (G' H' : Hp) (v : V), Exx G G' → (∀ a o, G' a = some o → G a = some o ∨ Nt H a) → Rs K none H' G' H' σ Δ → Nt G' x → (∀ a o, a ≠ x → H a = some o → (∀ ps, o ≠ HO.tbl ps) → H' a = some o) → H' x = some (.ins C dx (putF f v vs)) → Rp K G' v d → Z.nx σ H') :
    sFld K (tVar 0) te f Z σ H :=
  h none G H G H σ _ (.start st) (fun v e G1 H1 g1 r1 p1 => by
    subst p1
    have hx1 : H1 x = some (.ins C dx vs) := g1.keep x _ (by simp) hx (fun _ z => nomatch z)
    have n1 : Nt G1 x := fun o e => by
      rcases g1.nw x o e with z | z
      · exact nG o z
      · obtain ⟨ps, q⟩ := z _ hx
        cases q
    refine ⟨.ref x, hσ, x, C, dx, vs, rfl, hx1, c, n, l, ?_⟩
    have ex : Exx G1 (upd H1 x (.ins C dx (putF f v vs))) := fun a o e nt => by
      have : a ≠ x := fun z => by
        rw [z] at e
        obtain ⟨ps, q⟩ := n1 _ e
        exact nt ps q
      rw [upd_ne this]; exact g1.sub a o e nt
    have s1 := (Sta.start st).go g1
    have tb : TbOk (upd H1 x (.ins C dx (putF f v vs))) := fun p hp => by
      obtain ⟨ps, h1, h2, h3⟩ := s1.rs.tb p hp
      have ne : ∀ {a : Addr} {o : HO}, H1 a = some o → (∀ C dx vs, o ≠ .ins C dx vs) → a ≠ x := fun {a o} e q z => by
        rw [z, hx1] at e
        exact q _ _ _ (Option.some.inj e).symm
      refine ⟨ps, by rw [upd_ne (ne h1 (fun _ _ _ z => nomatch z))]; exact h1, h2, fun pos cv hc => ?_⟩
      obtain ⟨c, e1, e2⟩ := h3 pos cv hc
      exact ⟨c, e1, by rw [upd_ne (ne e2 (fun _ _ _ z => by unfold LamX.CodeO at z; cases z))]; exact e2⟩
    refine k G1 _ v g1.ex g1.nw ⟨ex, s1.rs.len, fun a e => (nomatch e), tb, s1.rs.dat, fun i ds e => absurd e (no i ds), fun i j ds es p e => absurd e (no i ds), s1.rs.dice⟩ n1 (fun a o c e nt => ?_) upd_same r1
    rw [upd_ne c]
    exact g1.keep a o (by simp) e nt) fun _ _ _ _ z => z.elim
end
/-! ### calls of classes and methods by name -/
section
open PySem.Spec PyProof.Rows
structure New (P : Program) (w : World) (K : PySem.W.Frag) (mg : Str → Option Value) (base : Heap) (k : Nat) (x : Str) (C : Addr) (sp : Sp) : Prop where
  ex : ∃ (f : Addr) (fd : FuncData) (ps : List Str), Mk K C f ∧ FnOk P w K mg base (L2.CX P w) k f fd ps sp ∧ mg x = some (.ref C) ∧ Binds K fd ps []
structure Mth (P : Program) (w : World) (K : PySem.W.Frag) (mg : Str → Option Value) (base : Heap) (k : Nat) (C : Addr) (m : Str) (sp : Sp) : Prop where
  ex : ∃ (f : Addr) (fd : FuncData) (ps : List Str), Cls K C ∧ Meth K C m f ∧ FnOk P w K mg base (L2.CX P w) k f fd ps sp ∧ Binds K fd ps []
abbrev XF : XK := fun _ _ _ => False
variable {X : Cx} {k j : Nat} {x m : Str} {C : Addr} {sp : Sp} {p pos apos : Pos} {o e : Expr} {es : List Expr} {t : TA} {ta : TE}
theorem passXF : Passes (L2.CX X.prog X.w) X XF := fun pins σ H s e s' I c => by
  obtain ⟨_, _, _, _, _, _, _, _, _, _, _, _, _, _, _, _, z⟩ := c
theorem pe_new (c : New X.prog X.w X.K X.mg X.base k x C sp) (hr : Room j X.A) (hk : k + 1 ≤ j) (hg : Gl X x) (ha : PA X (e :: es) t) (hdb : (x == ("__debug__" : Str)) = false := by decide) (he : starEach (e :: es) X.env = (false, eval e X.env) :: starEach es X.env := by rfl)
    (hpl : (backTo pos (starEach es X.env)).any (·.1) = false := by rfl) : PE X (.Call (.Name x p) (e :: es) [] pos) (tMake C sp [] XF t) := by
  obtain ⟨f, fd, ps, M, F, hm, b⟩ := c.ex
  exact pe_make M F (hr.mono hk) hg hm b .nil passXF ha hdb he hpl
theorem pe_mth0 {pl : Sem Bool} (c : Mth X.prog X.w X.K X.mg X.base k C m sp) (hr : Room j X.A) (hk : k ≤ j) (ho : PE X o ta)
    (ht : eval (.Call (.Attribute o m apos) [] [] pos) X.env = (do
      let ov ← eval o X.env
      standAt apos.atName
      let (f, first) ← holding [ov] (getMethod ov m pl)
      callWith pos f first (backTo pos (starEach [] X.env)) (backToKw pos (keywordEach [] X.env))) := by rfl) :
    PE X (.Call (.Attribute o m apos) [] [] pos) (tMeth C m sp [] XF ta tNil) := by
  obtain ⟨f, fd, ps, cl, M, F, b⟩ := c.ex
  exact pe_meth0 ho cl M F (hr.mono hk) b .nil passXF ht
end
/-! ### the promise of an __init__, by its body -/
section
open PySem.Spec PyProof.Rows
variable [Tt] {K : PySem.W.Frag} {P : Program} {w : World} {mg : Str → Option Value} {base : Heap} {x qual : Str} {params : Arguments} {body : List Stmt} {scope : Scope} {dvs : List V} {kws : List (Str × V)} {f : Addr} {fd : FuncData} {N ps : List Str} {k : Nat} {pre : List D → Prop} {C : Addr} {fs : List D → List (Str × D)}
theorem fn_new {t : WX → TS} (F : FunD K x qual params body scope dvs kws f fd) (S : FnScope N ps scope) (hp : ∀ ds, pre ds → ds.length + 1 = ps.length)
    (der : ∀ (cdv : Value) (A : Around) (outer : List Env) (s : Shared) (H : Hp) (E : XK), Room k (A.deeper (envOfC qual scope s.heap.objs.size f cdv)) → PSs (cxOf (L2.CX P w) P w K mg base N qual scope f cdv A outer s H E) body (t (wDef E)))
    (h : ∀ vs H Q E, spNew K C pre fs vs H Q E → t (wDef E) { nx := fun _ H' => Q .non H', rt := Q } (L2.start N vs) H) : FnOk P w K mg base (L2.CX P w) (k + 1) f fd ps (spNew K C pre fs) := by
  refine F.ok S (fun vs H Q E hsp => ?_) fun cdv A outer s H vs Q E hr hsp => ⟨t (wDef E), der cdv A outer s H E hr, h vs H Q E hsp⟩
  obtain ⟨G, x, dx, ws, ds, rfl, _, _, _, _, r, p, _⟩ := hsp
  rw [List.length_cons, r.length]; exact hp ds p
end
end Ts
namespace Ts
section
open PySem L2
variable [Tt] {K : PySem.W.Frag} {E : L2.St → XK} {Δ : En} {X : Addr → Prop}
/-- o.m(..), the promise a family -/
theorem ev_methI {ι : Type} {args : ι → List D} {pre : ι → Prop} {res : ι → Res} {ta : TE} {tr : TA} {C : Addr} {m : Str} {fs : List (Str × D)} {ds : List D} {d : D} {E' : XK} (i : ι) (h : Ev K E ta Δ (· = .obj C fs) X) (hm : fs.lookup m = none) (ha : Ea K E tr Δ (· = ds) X)
    (he : .obj C fs :: ds = args i) (hp : pre i) (hr : res i = .ret d) : Ev K E (tMeth C m (spI K args pre res) [] E' ta tr) Δ (· = d) X := fun q G0 H0 G H σ Q s k kx =>
  h q G0 H0 G H σ _ s (fun v o G1 H1 g1 r1 p1 => by
    subst p1
    have r1' := r1
    obtain ⟨a, dx, vs, rfl, hi, rf⟩ := r1.obj_inv
    refine ⟨a, dx, vs, rfl, g1.sub.i hi, rf.lookN hm, ?_⟩
    refine ha q G0 H0 G1 H1 σ _ (s.go g1) (fun us ds' G2 H2 g2 r2 p2 => ?_) fun C G' H' g x => kx C G' H' (s.tr g1 g) x
    subst p2
    have s2 := s.go (s.tr g1 g2)
    rw [List.append_nil]
    exact ⟨i, G2, g2.sub, s2.rs.tb, by rw [← he]; exact .cons (r1'.ex g2.ex) r2, hp, fun v e G' H' g rd po => k v e G' H' (s.tr (s.tr g1 g2) g.any) rd (by rw [hr] at po; injection po with po; exact po.symm), fun B G' H' g po => by rw [hr] at po; cases po⟩) kx
end
end Ts


/-! Promises of defs whose code object must be known; tables with different addresses. -/
namespace Ts
variable [Tt]
open PySem PySem.Spec PyProof.Rows L2
section
variable {P : Program} {w : World} {K : PySem.W.Frag} {mg : Str → Option Value} {base : Heap}
theorem fn_HW {x qual : Str} {params : Arguments} {body : List Stmt} {scope : Scope} {f : Addr} {fd : FuncData} {N ps : List Str} {k : Nat} {sp : Sp} {t : WX → TS} (F : FunD K x qual params body scope [] [] f fd) (S : FnScope N ps scope) (len : ∀ vs H Q E, sp vs H Q E → vs.length = ps.length)
    (der : ∀ (cdv : Value) (A : Around) (outer : List Env) (s : Shared) (H : Hp) (E : XK), fd.code = cdv → Room k (A.deeper (envOfC qual scope s.heap.objs.size f cdv)) → PSs (cxOf (L2.CX P w) P w K mg base N qual scope f cdv A outer s H E) body (t (wDef E)))
    (h : ∀ vs H Q E, sp vs H Q E → t (wDef E) { nx := fun _ H' => Q .non H', rt := Q } (L2.start N vs) H) : FnOk P w K mg base (L2.CX P w) (k + 1) f fd ps sp := by
  refine ⟨len, fun A outer s H args us vs Q E hr e0 hb r hsp => ?_⟩
  obtain ⟨oc, od, dV, kV, doc, pm, an, cdv, ct, osl, rfl, lk, hcd, _, _⟩ := F.ex
  exact LamX.run_ofS lk hcd S hr e0 hb r (len vs H Q E hsp) fun hr' => ⟨t (wDef E), der cdv A outer s H E rfl hr', h vs H Q E hsp⟩
theorem fn_IH {ι : Type} {args : ι → List D} {pre : ι → Prop} {res : ι → Res} {x qual : Str} {params : Arguments} {body : List Stmt} {scope : Scope} {f : Addr} {fd : FuncData} {N ps : List Str} {k : Nat} {t : WX → TS} (F : FunD K x qual params body scope [] [] f fd) (S : FnScope N ps scope) (hp : ∀ i, (args i).length = ps.length)
    (der : ∀ (cdv : Value) (A : Around) (outer : List Env) (s : Shared) (H : Hp) (E : XK), fd.code = cdv → Room k (A.deeper (envOfC qual scope s.heap.objs.size f cdv)) → PSs (cxOf (L2.CX P w) P w K mg base N qual scope f cdv A outer s H E) body (t (wDef E)))
    (h : ∀ (W : WX) i, pre i → Xs K W (t W) (argsE N (args i)) (fnR (res i))) : FnOk P w K mg base (L2.CX P w) (k + 1) f fd ps (spI K args pre res) := by
  have hNl : ps.length ≤ N.length := by have := congrArg List.length S.pre; rw [List.length_take] at this; omega
  refine fn_HW F S (fun vs H Q E hsp => ?_) der fun vs H Q E hsp => ?_
  · obtain ⟨i, G, _, _, r, _⟩ := hsp
    rw [r.length]; exact hp i
  · obtain ⟨i, G, e, tb, r, p, k1, k2⟩ := hsp
    have hl : (args i).length ≤ N.length := by rw [hp i]; exact hNl
    exact h (wDef E) i p none G H G H (L2.start N vs) _ (sta_args e tb r hl) (fun σ' Δ' G' H' e' s' q => k1 .non .non G' H' s'.gr .non q) (fun v d G' H' g rv q => k1 v d G' H' g rv q) (fun _ _ _ _ _ _ z => False.elim z) (fun _ _ _ _ _ _ z => False.elim z) fun C σ' Δ' G' H' e' s' q => k2 C G' H' s'.gr q
theorem fn_QH {pre : List D → Prop} {post : List D → Res → Prop} {x qual : Str} {params : Arguments} {body : List Stmt} {scope : Scope} {f : Addr} {fd : FuncData} {N ps : List Str} {k : Nat} {t : WX → TS} (F : FunD K x qual params body scope [] [] f fd) (S : FnScope N ps scope) (hp : ∀ ds, pre ds → ds.length + 1 = ps.length)
    (der : ∀ (cdv : Value) (A : Around) (outer : List Env) (s : Shared) (H : Hp) (E : XK), fd.code = cdv → Room k (A.deeper (envOfC qual scope s.heap.objs.size f cdv)) → PSs (cxOf (L2.CX P w) P w K mg base N qual scope f cdv A outer s H E) body (t (wDef E)))
    (h : ∀ (W : WX) ds, pre ds → Xs K W (t W) (argsQ N ds) (fnP post ds)) : FnOk P w K mg base (L2.CX P w) (k + 1) f fd ps (spQ K pre post) := by
  have hNl : ps.length ≤ N.length := by have := congrArg List.length S.pre; rw [List.length_take] at this; omega
  refine fn_HW F S (fun vs H Q E hsp => ?_) der fun vs H Q E hsp => ?_
  · obtain ⟨G, a, ws, ds, rfl, _, _, _, _, r, p, _⟩ := hsp
    rw [List.length_cons, r.length]; exact hp ds p
  · obtain ⟨G, a, ws, ds, rfl, e, n, dq, tb, r, p, k1, k2⟩ := hsp
    have hl : ds.length + 1 ≤ N.length := by rw [hp ds p]; exact hNl
    exact h (wDef E) ds p (some a) G H G H (L2.start N (.ref a :: ws)) _ (sta_argsQ e n dq tb r hl) (fun σ' Δ' G' H' e' s' q => k1 .non .non G' H' s'.gr .non q) (fun v d G' H' g rv q => k1 v d G' H' g rv q) (fun _ _ _ _ _ _ z => False.elim z) (fun _ _ _ _ _ _ z => False.elim z) fun C σ' Δ' G' H' e' s' q => k2 C G' H' s'.gr q
end
/-- tables at different addresses -/
theorem hu_of {T : Tb} (nd : (T.map (·.1)).Nodup) {P : Addr} {q : Str} (h : (P, q) ∈ T) : ∀ p ∈ T, p.1 = P → p.2 = q := by
  induction T with
  | nil => cases h
  | cons a T ih =>
    rw [List.map_cons, List.nodup_cons] at nd
    intro p hp e
    rcases List.mem_cons.mp h with z | z
    · rcases List.mem_cons.mp hp with y | y
      · rw [y, ← z]
      · refine absurd ?_ nd.1
        rw [← z, show ((P, q) : Addr × Str).1 = p.1 from e.symm]
        exact List.mem_map.mpr ⟨p, y, rfl⟩
    · rcases List.mem_cons.mp hp with y | y
      · refine absurd ?_ nd.1
        rw [← y, e]
        exact List.mem_map.mpr ⟨(P, q), z, rfl⟩
      · exact ih nd.2 z p y e
end Ts


/-! Generator expressions whose elements are read like any expression (calls of defs among them, that raise nothing): a generator that has not begun (HandS.GenList PGen). -/
namespace Ts
open PySem PySem.Spec PyProof.Rows L2 GenW
/-- the generator expression's scope: its own names are of the def's table of names -/
structure GBlk (N : List Str) (sc scope : Scope) (own : List (Str × Nat)) : Prop where
  kind : scope.kind = .function
  co : scope.isCoroutine = false
  uniq : ∀ y ∈ scope.names, scope.names.lookup y.1 = some y.2
  dot : scope.names.lookup (".0" : Str) = some NameKind.local
  ndot : (".0" : Str) ∉ N
  loc : ∀ y ∈ scope.names, y.2 = .local ∨ y.2 = .cell → y.1 = ".0" ∨ ∃ i, (y.1, i) ∈ own
  own : ∀ p ∈ own, N[p.2]? = some p.1
  free : ∀ y ∈ scope.names, y.2 = .free → sc.names.lookup y.1 = some .cell ∨ sc.names.lookup y.1 = some .free
def gblkB (N : List Str) (sc scope : Scope) (own : List (Str × Nat)) : Bool :=
  decide (scope.kind = .function) && !scope.isCoroutine && decide (scope.names.lookup (".0" : Str) = some NameKind.local) && !N.contains (".0" : Str) && (own.all fun p => decide (N[p.2]? = some p.1)) &&
    scope.names.all fun y => decide (scope.names.lookup y.1 = some y.2) && (!decide (y.2 = .local ∨ y.2 = .cell) || decide (y.1 = ".0") || own.any fun p => decide (p.1 = y.1)) && (!decide (y.2 = .free) || decide (sc.names.lookup y.1 = some .cell) || decide (sc.names.lookup y.1 = some .free))
theorem gblk_by {N : List Str} {sc scope : Scope} {own : List (Str × Nat)} (h : gblkB N sc scope own = true) : GBlk N sc scope own := by
  unfold gblkB at h
  simp only [Bool.and_eq_true, Bool.or_eq_true, Bool.not_eq_true', decide_eq_true_eq, decide_eq_false_iff_not, List.all_eq_true] at h
  obtain ⟨⟨⟨⟨⟨h1, h2⟩, h3⟩, h4⟩, h5⟩, h6⟩ := h
  refine ⟨h1, h2, fun y hy => (h6 y hy).1.1, h3, fun z => ?_, fun y hy e => ?_, h5, fun y hy e => ?_⟩
  · rw [List.contains_iff_mem.mpr z] at h4
    cases h4
  · rcases (h6 y hy).1.2 with (z | z) | z
    · exact absurd e z
    · exact .inl z
    · obtain ⟨p, hp, e2⟩ := List.any_eq_true.mp z
      have e3 : p.1 = y.1 := of_decide_eq_true e2
      exact .inr ⟨p.2, by rw [← e3]; exact hp⟩
  · rcases (h6 y hy).2 with (z | z) | z
    · exact absurd e z
    · exact .inl z
    · exact .inr z
/-- the frame of a generator expression: cells of its own ahead of the one name that is bound -/
theorem frame_cells {M : Model} {A : Around} {E : Value → Shared → Prop} {s : Shared} {scope : Scope} {globals bi : Addr} {cl : List (Str × Addr)} {qual : Str} {code it : Value} {Q : Env → Shared → Prop} (hk : scope.kind = .function) (h0 : scope.names.lookup (".0" : Str) = some NameKind.local)
    (hQ : ∀ h', h'.Ns s.heap.objs.size (fun y => if y = ".0" then some it else none) → Heap.SameBut s.heap.objs.size (pushCells (s.heap.push { cls := .type "frame", data := .dict #[] }) scope.names) h' →
      Q (newEnv scope s.heap.objs.size globals (cellsFrom (s.heap.objs.size + 1) scope.names cl) qual none code none bi) { s with heap := h', toks := s.toks + 1 }) :
    wpAny M A (newFunctionEnv scope globals cl [(".0", it)] qual none code none bi) Q E s := by
  simp only [newFunctionEnv, Option.isSome_none, Bool.false_eq_true, if_false]
  refine wpAny_bind (wpAny_alloc ?_)
  refine wpAny_bind (wpAny_layCells _ (fun n k c => by cases q : k == NameKind.cell <;> simp [q]) scope.names cl _ _ ?_)
  rw [show ({ s with heap := s.heap.push { cls := .type "frame", data := .dict #[] } } : Shared).heap.objs.size = s.heap.objs.size + 1 from Heap.size_push ..]
  rw [List.forIn_cons]
  have hn0 : (pushCells (s.heap.push { cls := .type "frame", data := .dict #[] }) scope.names).Ns s.heap.objs.size (fun _ => none) := (Heap.Ns.new s.heap (.type "frame")).keeps (pushCells_keeps _ _)
  have hst : ∀ v, storeName (newEnv scope s.heap.objs.size globals (cellsFrom (s.heap.objs.size + 1) scope.names cl) qual none code none bi) ".0" v = nsSet s.heap.objs.size ".0" v := fun v =>
    storeName_local (env := newEnv scope s.heap.objs.size globals (cellsFrom (s.heap.objs.size + 1) scope.names cl) qual none code none bi) h0 (by
      show (scope.kind == .class || (scope.kind == .module && _)) = false
      rw [hk]; rfl) v
  show wpAny _ _ ((((storeName (newEnv scope s.heap.objs.size globals (cellsFrom (s.heap.objs.size + 1) scope.names cl) qual none code none bi) ".0" it) >>= _) >>= _) >>= _) _ _ _
  rw [hst]
  refine wpAny_bind (wpAny_bind (wpAny_bind (wpAny_nsSet hn0 fun h' n' sb => wpAny_pure ?_)))
  show wpAny _ _ (forIn ([] : List (Str × Value)) _ _) _ _ _
  rw [List.forIn_nil]
  exact wpAny_pure (wpAny_pure (hQ h' n' sb))
theorem gen_make {M : Model} {A : Around} {E : Value → Shared → Prop} {s : Shared} {env : Env} {elt target iter : Expr} {ifs : List Expr} {scope : Scope} {cl : List (Str × Addr)} {pos : Pos} {Q : Value → Shared → Prop}
    (hco : scope.isCoroutine = false) (hclos : closureFor scope env = pure cl) (h0 : scope.names.lookup (".0" : Str) = some NameKind.local) (hkind : scope.kind = .function) (hroom : A.depth < recursionLimit)
    (h : wpAny M A (eval iter env) (fun xv s₁ => wpAny M A (pyIter xv) (fun it s₂ => s₂.heap.NoLimit ∧
      wpAny M A (genexprCode env pos (env.qual ++ "<genexpr>") scope) (fun code s₃ => wpAny M A (builtinsFor env.globals env.builtins) (fun bi s₄ =>
        ∀ h', h'.Ns s₄.heap.objs.size (fun y => if y = ".0" then some it else none) → Heap.SameBut s₄.heap.objs.size (pushCells (s₄.heap.push { cls := .type "frame", data := .dict #[] }) scope.names) h' →
          Q (.ref h'.objs.size) { s₄ with
            gens := s₄.gens.push (.fresh (.compStart (.GeneratorExp elt [⟨target, iter, ifs, 0⟩] scope pos) 0 it .none (genEnv scope (cellsFrom (s₄.heap.objs.size + 1) scope.names cl) s₄.heap.objs.size code bi env))),
            toks := s₄.toks + 1 + 1 + 1,
            heap := h'.push { cls := .type "generator", data := .fields #[.int s₄.gens.size 0, .str "<genexpr>" (s₄.toks + 1), .str (env.qual ++ "<genexpr>") (s₄.toks + 1 + 1)] } }) E s₃) E s₂) E s₁) E s)
    (hs : ∀ x, genFold iter env x = pure x) : wpAny M A (eval (.GeneratorExp elt [⟨target, iter, ifs, 0⟩] scope pos) env) Q E s := by
  rw [eval_GeneratorExp1 _ _ _ _ _ _ _ hco, hclos]
  refine wpAny_bind (thn h fun xv s1 h1 => wpAny_bind (wpAny_standAt ?_))
  refine wpAny_bind (wpAny_of_eq (hs xv) (wpAny_bind (wpAny_holding (thn h1 fun it s2 h2 => ?_))))
  refine wpAny_bind (wpAny_enterFrame h2.1 hroom (wpAny_bind (wpAny_pure ?_)))
  refine wpAny_bind (thn h2.2 fun code s3 h3 => wpAny_bind (thn h3 fun bi s4 h4 => wpAny_bind (frame_cells hkind h0 fun h' n' sb => ?_)))
  simp only [newGenerator, newFields]
  exact wpAny_bind (wpAny_newGen (wpAny_bind (wpAny_mkText (wpAny_bind (wpAny_mkText (wpAny_newObj_type (h4 h' n' sb) (by size_fits)))))))
/-- the context of its frame -/
def genX (X : Cx) (A : Around) (s : Shared) (H : Hp) (ex : List Addr) (env : Env) (pn : List (Addr × Obj)) : Cx where
  prog := X.prog
  w := X.w
  K := X.K
  mg := X.mg
  base := X.base
  A := A.deeper env
  N := X.N
  s_0 := s
  H_0 := H
  env := env
  outer := X.stack
  stack := env :: X.stack
  ex := ex
  fn := fun x => env.scope.names.lookup x == some .cell
  calm := true
  pn := pn
  xe := fun _ _ => False
abbrev gEnv (X : Cx) (scope : Scope) (C : Addr) (code : Value) : Env := genEnv scope (cellsFrom (C + 1) scope.names (cloFrom X.env.cells scope.names [])) C code builtinsNs X.env
theorem over_gen {A : Around} {elt : Expr} {gs : List Comprehension} {scope : Scope} {pos : Pos} {it acc : Value} {env : Env} : A.over (.compLoop (.GeneratorExp elt gs scope pos) 0 it acc env) [] = A.deeper env := by
  first
    | rfl
    | (obtain ⟨hd, d, fr, gs, u⟩ := A; simp [Around.over, Around.deeper, marksOver, frameCount, unitsOf, envsOf, guardsOf, pushEnvs, pushGuards, Code.envs, Code.env?, Code.isFrame, Code.guards, Code.isGuard, Code.weight, Code.frames, Code.isCreation, Code.isCaller, Code.cUnits])
theorem over_gen0 {A : Around} {elt : Expr} {gs : List Comprehension} {scope : Scope} {pos : Pos} {it acc : Value} {env : Env} : A.over (.compStart (.GeneratorExp elt gs scope pos) 0 it acc env) [] = A.deeper env := by
  first
    | rfl
    | (obtain ⟨hd, d, fr, gs, u⟩ := A; simp [Around.over, Around.deeper, marksOver, frameCount, unitsOf, envsOf, guardsOf, pushEnvs, pushGuards, Code.envs, Code.env?, Code.isFrame, Code.guards, Code.isGuard, Code.weight, Code.frames, Code.isCreation, Code.isCaller, Code.cUnits])
section
variable {X : Cx} {pins : List (Addr × Obj)} {σ : L2.St} {H : Hp} {s : Shared}
theorem gen_start {A : Around} {scope : Scope} {own : List (Str × Nat)} {fp : List Addr} {code : Value} {it : Value} {h₁ : Heap} {tk : Nat} {gs : Array GenState} (I : Inv X pins σ H s) (hN : X.N.Nodup) (B : GBlk X.N X.env.scope scope own) (hex : ∀ b ∈ fp, FpOk X pins H b ∧ b < s.heap.objs.size) (hd : A.handled = none) (hfr : A.frames = some X.stack)
    (hns : h₁.Ns s.heap.objs.size (fun y => if y = ".0" then some it else none)) (kx : ∀ b o, b ≠ s.heap.objs.size → (pushCells (s.heap.push { cls := .type "frame", data := .dict #[] }) scope.names).get? b = some o → h₁.get? b = some o) (hb : AllBare gs) :
    Inv (genX X A s H fp (gEnv X scope s.heap.objs.size code) []) [] (wipe σ (own.map (·.2))) H { s with gens := gs, heap := h₁, toks := tk } := by
  have e0 := I.env0
  have kp : ∀ b o, s.heap.get? b = some o → h₁.get? b = some o := fun b o e => kx b o (Nat.ne_of_lt (Heap.lt_size e)) (pushCells_keeps _ _ _ _ (Heap.get?_push_of_some _ e))
  have hfree : ∀ y ∈ scope.names, y.2 = .free → ∃ c, X.env.cells.lookup y.1 = some c := fun y hy e => by
    rcases B.free y hy e with k | k
    · exact I.ok.has _ (.inl k)
    · exact I.ok.has _ (.inr k)
  generalize hcs : cellsFrom (s.heap.objs.size + 1) scope.names (cloFrom X.env.cells scope.names []) = cs
  have ge : gEnv X scope s.heap.objs.size code = genEnv scope cs s.heap.objs.size code builtinsNs X.env := by rw [← hcs]
  rw [ge]
  rw [← Heap.size_push s.heap { cls := .type "frame", data := .dict #[] }] at hcs
  have old : ∀ {y c}, (y, c) ∈ cloFrom X.env.cells scope.names [] → X.env.cells.lookup y = some c ∧ c < s.heap.objs.size ∧ (y, NameKind.free) ∈ scope.names := fun {y c} hm => by
    rcases cloFrom_mem hm with hm | ⟨h1, h2⟩
    · cases hm
    · obtain ⟨c1, hc⟩ := hfree _ h1 rfl
      have hc : X.env.cells.lookup y = some c1 := hc
      have e2 : c = c1 := by rw [h2, hc] <;> rfl
      rw [e2]
      obtain ⟨w', z⟩ := I.cell y c1 hc
      exact ⟨hc, z.lt, h1⟩
  have cm : ∀ {y c}, cs.lookup y = some c → (X.env.cells.lookup y = some c ∧ c < s.heap.objs.size ∧ (y, NameKind.free) ∈ scope.names) ∨ ((y, NameKind.cell) ∈ scope.names ∧ s.heap.objs.size + 1 ≤ c ∧ CellAt (pushCells (s.heap.push { cls := .type "frame", data := .dict #[] }) scope.names) c none) := fun {y c} e => by
    rw [← hcs] at e
    rcases cells_mem (PySem.mem_of_lookup e) with hm | ⟨h1, h2, h3⟩
    · exact .inl (old hm)
    · rw [Heap.size_push] at h2
      exact .inr ⟨h1, h2, h3⟩
  have look : ∀ {y}, scope.names.lookup y = some .free → ∃ c, cs.lookup y = some c ∧ X.env.cells.lookup y = some c := fun {y} hl => by
    have hy : (y, NameKind.free) ∈ scope.names := PySem.mem_of_lookup hl
    obtain ⟨c, e⟩ := mem_lookup (cells_acc (names := scope.names) (n := (s.heap.push { cls := .type "frame", data := .dict #[] }).objs.size) (cloFrom_has (cells := X.env.cells) (acc := []) hy))
    rw [hcs] at e
    refine ⟨c, e, ?_⟩
    rcases cm e with ⟨q, _⟩ | ⟨q, _⟩
    · exact q
    · have := B.uniq _ q
      rw [hl] at this; cases this
  have cellK : ∀ {c : Addr} {v : Option Value}, s.heap.IsCell c v → h₁.IsCell c v := fun {c v} ⟨o, ho, hd⟩ => ⟨o, kp _ _ ho, hd⟩
  refine ⟨⟨e0.mod, B.kind, I.ok.glob, rfl, Nat.le_refl _, fun y z c e1 e2 => ?_, fun y hy => ?_, fun y c z e => ?_, fun _ => hd, Around.frames_deeper hfr, .inr ⟨rfl, rfl⟩, fun b z => ?_, e0.bs, e0.bsz, fun b o hbo z => ?_,
      fun b z => ?_, e0.funs, e0.frf⟩,
    rfl, hb, Un.kept kp, ⟨_, hns, fun i y v e1 e2 e3 => ?_⟩, fun y c e => ?_, e0.hok.fresh (Nat.le_refl _), fun y c e => ?_, fun q hq => absurd (show q ∈ ([] : List (Addr × Obj)) ++ [] from hq) (by simp), e0.hok.kept kp, (wipe_length _ _).trans I.len⟩
  · have e1 : cs.lookup y = some c := e1
    have e2 : cs.lookup z = some c := e2
    rw [← hcs] at e1 e2
    refine cells_inj (fun p hp => ?_) (fun y z c a b => I.ok.inj y z c (old a).1 (old b).1) (PySem.mem_of_lookup e1) (PySem.mem_of_lookup e2)
    rw [Heap.size_push]
    exact Nat.lt_succ_of_lt (old (y := p.1) (c := p.2) hp).2.1
  · show ∃ c, cs.lookup y = some c
    have hy : scope.names.lookup y = some .cell ∨ scope.names.lookup y = some .free := hy
    rcases hy with hy | hy
    · obtain ⟨c, hm⟩ := cells_has (n := (s.heap.push { cls := .type "frame", data := .dict #[] }).objs.size) (acc := cloFrom X.env.cells scope.names []) (PySem.mem_of_lookup hy)
      obtain ⟨c', e'⟩ := mem_lookup hm
      exact ⟨c', by rw [← hcs]; exact e'⟩
    · obtain ⟨c, e, _⟩ := look hy
      exact ⟨c, e⟩
  · have z : (scope.names.lookup y == some NameKind.cell) = true := z
    have z : scope.names.lookup y = some .cell := by simpa using z
    rcases cm (show cs.lookup y = some c from e) with ⟨_, _, q⟩ | ⟨_, q, _⟩
    · have q := B.uniq _ q
      rw [z] at q; cases q
    · exact Nat.le_of_succ_le q
  · obtain ⟨⟨_, _, _, _, f4, _⟩, hlt⟩ := hex b z
    refine ⟨Nat.ne_of_lt hlt, fun y c e q => ?_⟩
    rcases cm (show cs.lookup y = some c from e) with ⟨g, _⟩ | ⟨_, g, _⟩
    · exact f4 y c g q
    · rw [q] at g
      exact absurd (Nat.lt_of_lt_of_le hlt (Nat.le_of_succ_le g)) (Nat.lt_irrefl _)
  · obtain ⟨⟨_, _, _, f3, _, _⟩, _⟩ := hex b z
    rcases f3 with q | q
    · exact I.ok.noex b o hbo q
    · have := Heap.lt_size hbo
      exact absurd (Nat.lt_of_lt_of_le this (Nat.le_trans I.ok.bsz q)) (Nat.lt_irrefl _)
  · obtain ⟨⟨_, f1, f2, _, _, _⟩, _⟩ := hex b z
    intro hm
    rcases List.mem_cons.mp (I.stkSub b hm) with q | q
    · exact f1 q
    · exact f2 q
  · have e3 : Vis scope y := e3
    obtain ⟨e2a, e2b⟩ := wipe_some e2
    have mine : ∀ k, (y, k) ∈ scope.names → (k = .local ∨ k = .cell) → False := fun k hk hk' => by
      rcases B.loc _ hk hk' with z | ⟨j, hj⟩
      · have z : y = ".0" := z
        exact B.ndot (List.mem_of_getElem? (by rw [← z]; exact e1))
      · have e4 := B.own _ hj
        have e5 : i = j := nodup_ix hN e1 e4
        exact e2b (List.mem_map.mpr ⟨_, hj, e5.symm⟩)
    rcases e3 with k | k | k
    · exact (mine _ (PySem.mem_of_lookup k) (.inl rfl)).elim
    · exact (mine _ (PySem.mem_of_lookup k) (.inr rfl)).elim
    · obtain ⟨m, hn, hl⟩ := I.loc
      have hvis : Vis X.env.scope y := (B.free _ (PySem.mem_of_lookup k) rfl).elim (fun k => .inr (.inl k)) (fun k => .inr (.inr k))
      obtain ⟨w', r, q⟩ := hl i y v e1 e2a hvis
      obtain ⟨c2, h2, c1⟩ := look k
      refine ⟨w', r, .inr ⟨.inr k, c2, h2, ?_⟩⟩
      rcases q with ⟨k', _⟩ | ⟨_, c3, e', z⟩
      · have k' : X.env.scope.names.lookup y = some .local := k'
        rcases B.free _ (PySem.mem_of_lookup k) rfl with k2 | k2 <;> rw [show X.env.scope.names.lookup y = _ from k2] at k' <;> cases k'
      · rw [c1] at e'
        cases e'
        exact cellK z
  · rcases cm (show cs.lookup y = some c from e) with ⟨q, _⟩ | ⟨_, g, o, ho, hc⟩
    · obtain ⟨w', z⟩ := I.cell y c q
      exact ⟨w', cellK z⟩
    · exact ⟨none, o, kx c o (Nat.ne_of_gt g) ho, hc⟩
  · rcases cm (show cs.lookup y = some c from e) with ⟨q, _⟩ | ⟨_, g, _⟩
    · exact I.freeC y c q
    · exact I.hok.fresh (Nat.le_of_succ_le g)
/-- the reading: what is handed out, the heap at the end -/
def tGe (T : Tb) (wi : TI) (g : TG) (tt : TT) (te : TE) (vs : List Nat) : TGen := fun σ H cont => wi σ H fun J H1 => LamX.Tabs T H1 ∧ ∀ H2, LamX.ExtN H1 H2 → LamX.Tabs T H2 → ∃ W : Nat → Nat → List V → Hp → Prop, (∃ m, W 0 m [] H2) ∧ ∀ i m ys H, W i m ys H →
  (J.stop i H ∧ ys.length ≤ sizeLine ∧ cont ys H) ∨ (J.go i H ∧ ∃ Nx : List V → Hp → Prop, (∀ ys' H', Nx ys' H' → ∃ m', m' < m ∧ W (i + 1) m' ys' H') ∧ ∀ x H', J.yld i H x H' → g x (wipe σ vs) H' fun σ2 H2 => wipe σ2 vs = wipe σ vs ∧ tt σ2 H2 fun b H3 =>
    if b = true then te σ2 H3 fun y H4 => ys.length < sizeLine ∧ Nx (ys ++ [y]) H4 else Nx ys H3)
/-- the turns -/
theorem ge_loop {Aw : Around} {scope : Scope} {fp : List Addr} {code : Value} {C : Addr} {s3 : Shared} {H3 : Hp} {it : Addr} {tn : Nat → Heap → Prop} {J : It} {elt tg iter : Expr} {ifs : List Expr} {pos : Pos} {g : TG} {tt : TT} {te : TE} {vs : List Nat} {S a : Addr} {gi : Nat} {go : Obj} {Q : List V → Hp → Prop}
    {W : Nat → Nat → List V → Hp → Prop} (T : Turn X.prog X.w X.K tg J fp it tn) (hgen : ∀ h : Heap, h.get? a = some go → h.IsGen a gi) (hco : scope.isCoroutine = false) (hSfp : S ∉ fp) (hafp : a ∉ fp) (haS : a ≠ S) (hA : Apart (genX X Aw s3 H3 fp (gEnv X scope C code) [(a, go)]) S)
    (pg : PG (genX X Aw s3 H3 fp (gEnv X scope C code) [(a, go)]) tg g) (pt : PTs (genX X Aw s3 H3 fp (gEnv X scope C code) [(a, go)]) ifs tt) (pe : PE (genX X Aw s3 H3 fp (gEnv X scope C code) [(a, go)]) elt te)
    (turn : ∀ i m ys H, W i m ys H → (J.stop i H ∧ ys.length ≤ sizeLine ∧ Q ys H) ∨ (J.go i H ∧ ∃ Nx : List V → Hp → Prop, (∀ ys' H', Nx ys' H' → ∃ m', m' < m ∧ W (i + 1) m' ys' H') ∧ ∀ x H', J.yld i H x H' → g x (wipe σ vs) H' fun σ2 H2 => wipe σ2 vs = wipe σ vs ∧ tt σ2 H2 fun b H3 =>
      if b = true then te σ2 H3 fun y H4 => ys.length < sizeLine ∧ Nx (ys ++ [y]) H4 else Nx ys H3)) :
    ∀ (m i n : Nat) (ys : List V) (H : Hp) (s₀ s : Shared), W i m ys H → n + ys.length = sizeLine → GI (genX X Aw s3 H3 fp (gEnv X scope C code) [(a, go)]) S [] ys (wipe σ vs) H s → tn i s.heap → (∀ b ∈ fp, H b = none) →
      Seg (model X.prog X.w) Aw (REnd X.prog X.w X.stack H3 s3 fp S a gi Q XF) (YItem s3 S a gi) n s₀ (.compLoop (.GeneratorExp elt [⟨tg, iter, ifs, 0⟩] scope pos) 0 (.ref it) .none (gEnv X scope C code)) ((model X.prog X.w).den (.compLoop (.GeneratorExp elt [⟨tg, iter, ifs, 0⟩] scope pos) 0 (.ref it) .none (gEnv X scope C code))) [] s := by
  have ov : Aw.over (.compLoop (.GeneratorExp elt [⟨tg, iter, ifs, 0⟩] scope pos) 0 (.ref it) .none (gEnv X scope C code)) [] = (genX X Aw s3 H3 fp (gEnv X scope C code) [(a, go)]).A := over_gen
  have hpn : ∀ p ∈ (genX X Aw s3 H3 fp (gEnv X scope C code) [(a, go)]).pn, p.1 ≠ S := fun p hp => by
    rw [List.mem_singleton.mp (show p ∈ [(a, go)] from hp)]; exact haS
  have stat : ∀ {σ' : L2.St} {H' : Hp} {s' : Shared} {o : Obj}, Inv (genX X Aw s3 H3 fp (gEnv X scope C code) [(a, go)]) [(S, o)] σ' H' s' → (∀ b ∈ fp, H' b = none) → ∀ b ∈ fp, FpOk (genX X Aw s3 H3 fp (gEnv X scope C code) [(a, go)]) [(S, o)] H' b := fun {σ' H' s' o} I' hn b hb =>
    ⟨hn b hb, (I'.ok.exf b hb).1, I'.ok.exfs b hb, .inl hb, fun x c e => (I'.ok.exf b hb).2 x c e, fun p hp => by
      rcases List.mem_append.mp hp with z | z
      · rw [List.mem_singleton.mp (show p ∈ [(a, go)] from z)]; exact fun e => hafp (by rw [show a = b from e]; exact hb)
      · rw [List.mem_singleton.mp z]; exact fun e => hSfp (by rw [show S = b from e]; exact hb)⟩
  intro m
  induction m using Nat.strongRecOn with
  | ind m ih =>
    intro i n ys H s₀ s w5 hn hG st n5
    obtain ⟨acc, cc, ra, I5⟩ := hG
    show Seg _ Aw _ _ _ s₀ _ ((compTurn (.GeneratorExp elt [⟨tg, iter, ifs, 0⟩] scope pos) 0 (.ref it) .none (gEnv X scope C code)).onRaise (leaving (gEnv X scope C code))) [] s
    rw [compTurn_gen, Sem.onRaise_eq_wrap]
    refine seg_bind_wrap (wpAny_standAt ?_)
    rcases turn i m ys H w5 with ⟨stop, hle, qq⟩ | ⟨go', Nx, hNx, step⟩
    · have td := T.done (genX X Aw s3 H3 fp (gEnv X scope C code) [(a, go)]) rfl rfl rfl rfl i _ s _ H (fun _ _ => False) I5 (stat I5 n5) st stop
      refine seg_bind_wrap ?_
      rw [ov]
      refine thnF td fun r s6 h6 => ?_
      obtain ⟨hr, I6⟩ := h6
      subst hr
      obtain ⟨p1, p2, _⟩ := I6.pin (S, lstObj acc cc) (List.mem_append_right _ List.mem_cons_self)
      exact seg_end (.ok .next) (.inl ⟨.inr rfl, H, ys, acc, cc, I6.os, I6.bare, I6.base, I6.hok, p2, p1, ra, hle, qq⟩)
    · have ti := T.item (genX X Aw s3 H3 fp (gEnv X scope C code) [(a, go)]) rfl rfl rfl rfl i _ s _ H (fun _ _ => False) I5 (stat I5 n5) st go'
      refine seg_bind_wrap ?_
      rw [ov]
      refine thnF ti fun r s6 h6 => ?_
      obtain ⟨u, hr, h6⟩ := h6
      subst hr
      refine seg_bind_wrap ?_
      rw [ov]
      refine thnF h6 fun _ s7 h7 => ?_
      obtain ⟨x, H7, I7, r7, y7, st7, n7⟩ := h7
      have I7' := I7.pinned (stat I7 n7) (T.obj _ _ st7)
      refine seg_bind_wrap ?_
      rw [ov]
      refine thnF (pg.run _ s7 _ H7 x u _ I7' r7 (step x H7 y7)) fun _ s8 h8 => ?_
      obtain ⟨σ8, H8, I8, hw8, q8⟩ := h8
      refine seg_bind_wrap ?_
      rw [ov]
      refine thnF (pt.run _ s8 σ8 H8 _ I8 q8) fun b s9 h9 => ?_
      obtain ⟨H9, I9, q9⟩ := h9
      have fin : ∀ {s' : Shared} {H' : Hp} {ys' : List V} {acc' : Array Value} {c' : Nat}, Vals ys' acc'.toList → Inv (genX X Aw s3 H3 fp (gEnv X scope C code) [(a, go)]) ([(S, lstObj acc' c')] ++ pinsAt fp s7.heap) σ8 H' s' → Nx ys' H' →
          ∃ m', m' < m ∧ W (i + 1) m' ys' H' ∧ GI (genX X Aw s3 H3 fp (gEnv X scope C code) [(a, go)]) S [] ys' (wipe σ vs) H' s' ∧ tn (i + 1) s'.heap ∧ ∀ b ∈ fp, H' b = none := fun {s' H' ys' acc' c'} rv I' nx => by
        obtain ⟨m', hm, w'⟩ := hNx ys' H' nx
        have pin' : ∀ b ∈ fp, ∀ o, s7.heap.get? b = some o → s'.heap.get? b = some o ∧ H' b = none := fun b hb o e =>
          let z := I'.pin (b, o) (List.mem_append_right _ (List.mem_append_right _ (mem_pinsAt hb e)))
          ⟨z.1, z.2.1⟩
        have hl : (wipe σ vs).length = σ8.length := by rw [← hw8, wipe_length]
        refine ⟨m', hm, w', ⟨acc', c', rv, (I'.unpinned).weak hl fun j v e => ?_⟩, T.keep _ _ _ st7 fun b hb o e => (pin' b hb o e).1, fun b hb => ?_⟩
        · rw [← hw8] at e
          exact (wipe_some e).1
        · obtain ⟨o, e, _⟩ := T.obj _ _ st7 b hb
          exact (pin' b hb o e).2
      cases b with
      | false =>
        simp only [Bool.false_eq_true, if_false] at q9 ⊢
        obtain ⟨m', hm, w', g', t', n'⟩ := fin ra I9 q9
        exact seg_again rfl (ih m' hm (i + 1) n ys H9 s₀ s9 w' hn g' t' n')
      | true =>
        simp only [if_true] at q9 ⊢
        have hy : ∀ v, yieldOut (gEnv X scope C code) v = yieldValue v := fun v => by
          have : (gEnv X scope C code).scope.isCoroutine = false := hco
          simp only [yieldOut, this, Bool.false_eq_true, if_false]
        simp only [hy]
        rw [Sem.bind_eq_wrap', Sem.bind_eq_wrap', Sem.wrap_wrap, Sem.wrap_wrap]
        refine seg_wrap ?_
        rw [ov]
        refine thnF (pe.run _ s9 σ8 H9 _ I9 q9) fun z s10 h10 => ?_
        obtain ⟨yv, H10, I10, r10, hlt, nx⟩ := h10
        obtain ⟨n', rfl⟩ : ∃ n', n = n' + 1 := ⟨n - 1, by omega⟩
        obtain ⟨p1, p2, _⟩ := I10.pin (S, lstObj acc cc) (List.mem_append_right _ List.mem_cons_self)
        obtain ⟨p3, _⟩ := I10.pin (a, go) (List.mem_append_left _ List.mem_cons_self)
        have hsz : acc.size = ys.length := by
          have e1 := ra.length
          have e2 : acc.toList.length = acc.size := by simp
          omega
        refine seg_at (seg_yield rfl rfl rfl ⟨I10.os, I10.bare, I10.nolimit, hgen _ p3, ⟨acc, cc, p1, by omega⟩, fun s'' hal => ?_⟩)
        have hip : ∀ p ∈ pinsAt fp s7.heap, p.1 ≠ S := fun p hp e => hSfp (by rw [← e]; exact (of_pinsAt hp).1)
        obtain ⟨acc', c', rv', I11⟩ := GI.woken (ip := pinsAt fp s7.heap) hpn hip hA ⟨acc, cc, ra, I10⟩ r10 hal
        obtain ⟨m', hm, w', g', t', n''⟩ := fin rv' I11 nx
        exact seg_again rfl (ih m' hm (i + 1) n' (ys ++ [yv]) H10 s'' s'' w' (by rw [List.length_append, List.length_singleton]; omega) g' t' n'')
theorem pgen_ge {T : Tb} {c P : Addr} {elt tg iter : Expr} {ifs : List Expr} {scope : Scope} {own : List (Str × Nat)} {gpos : Pos} {wi : TI} {g : TG} {tt : TT} {te : TE} {k : Nat}
    (hr : Room (k + 1) X.A) (hN : X.N.Nodup) (B : GBlk X.N X.env.scope scope own) (TB : LamX.TabB X.base X.mg c P) (hcode : X.env.code = .ref c) (hmT : (P, X.env.qual ++ "<genexpr>") ∈ T) (hu : ∀ p ∈ T, p.1 = P → p.2 = X.env.qual ++ "<genexpr>") (hi : PI X tg iter wi)
    (hg : ∀ (A : Around) (s : Shared) (H : Hp) (ex : List Addr) (C : Addr) (code : Value) (pn : List (Addr × Obj)), Room k (A.deeper (gEnv X scope C code)) → PG (genX X A s H ex (gEnv X scope C code) pn) tg g)
    (ht : ∀ (A : Around) (s : Shared) (H : Hp) (ex : List Addr) (C : Addr) (code : Value) (pn : List (Addr × Obj)), Room k (A.deeper (gEnv X scope C code)) → PTs (genX X A s H ex (gEnv X scope C code) pn) ifs tt)
    (he : ∀ (A : Around) (s : Shared) (H : Hp) (ex : List Addr) (C : Addr) (code : Value) (pn : List (Addr × Obj)), Room k (A.deeper (gEnv X scope C code)) → PE (genX X A s H ex (gEnv X scope C code) pn) elt te)
    (hs : ∀ v, genFold iter X.env v = pure v) : PGen X (k + 1) (.GeneratorExp elt [⟨tg, iter, ifs, 0⟩] scope gpos) (tGe T wi g tt te (own.map (·.2))) XF := by
  refine ⟨fun pins s σ H cont I h => ?_⟩
  have hfree : ∀ y ∈ scope.names, y.2 = .free → ∃ c, X.env.cells.lookup y.1 = some c := fun y hy e => by
    rcases B.free y hy e with k | k
    · exact I.ok.has _ (.inl k)
    · exact I.ok.has _ (.inr k)
  refine gen_make B.co (closure_ok hfree) B.dot B.kind (by have := hr.dp; omega) ?_ hs
  refine thn (hi.run pins s σ H _ I h) fun xv s1 hx => thn hx fun itv s2 h2 => ?_
  obtain ⟨it, fp, tn, J, H2, e, I2, T', st2, f2, hT, q⟩ := h2
  subst e
  refine ⟨I2.nolimit, ?_⟩
  obtain ⟨ps, hP, htr, hca⟩ := hT _ hmT
  have hPs : s2.heap.get? P = some { cls := .none, data := .fields ps } := I2.hok P _ hP
  have cd : PySem.W.CodeHd s2.heap c P := TB.code.keeps fun b u e => I2.bk b u e
  have szf : ∀ b ∈ fp, b < s2.heap.objs.size := fun b hb => by
    obtain ⟨o, e, _⟩ := T'.obj _ _ st2 b hb
    exact Heap.lt_size e
  have nPf : ∀ b ∈ fp, b ≠ P := fun b hb e => by
    have := (f2 b hb).1
    rw [e, hP] at this
    cases this
  -- behind the code object
  have main : ∀ (code : Value) (h3 : Heap) (tk : Nat) (H3 : Hp), Inv X pins σ H3 { s2 with heap := h3, toks := tk } → LamX.ExtN H2 H3 → LamX.Tabs T H3 → (∀ b ∈ fp, H3 b = none) → (∀ b o, b ≠ P → s2.heap.get? b = some o → h3.get? b = some o) → s2.heap.objs.size ≤ h3.objs.size →
      wpAny (model X.prog X.w) X.A (builtinsFor X.env.globals X.env.builtins) (fun bi s₄ => ∀ h', h'.Ns s₄.heap.objs.size (fun y => if y = ".0" then some (Value.ref it) else none) → Heap.SameBut s₄.heap.objs.size (pushCells (s₄.heap.push { cls := .type "frame", data := .dict #[] }) scope.names) h' →
        ∃ H1 sc ex, Inv X pins σ H1 sc ∧ ExOk X pins ex ∧ GMade X.prog X.w (k + 1) X.stack H1 sc ex cont XF (.ref h'.objs.size) { s₄ with
            gens := s₄.gens.push (.fresh (.compStart (.GeneratorExp elt [⟨tg, iter, ifs, 0⟩] scope gpos) 0 (.ref it) .none (genEnv scope (cellsFrom (s₄.heap.objs.size + 1) scope.names (cloFrom X.env.cells scope.names [])) s₄.heap.objs.size code bi X.env))),
            toks := s₄.toks + 1 + 1 + 1,
            heap := h'.push { cls := .type "generator", data := .fields #[.int s₄.gens.size 0, .str "<genexpr>" (s₄.toks + 1), .str (X.env.qual ++ "<genexpr>") (s₄.toks + 1 + 1)] } }) X.xe { s2 with heap := h3, toks := tk } := by
    intro code h3 tk H3 I3 hE hT3 hn3 kp3 sz3
    obtain ⟨bm, ob, e1, e2, e3, e4, e5, e6, e7, e8⟩ := TB.bm
    refine wpAny_builtinsFor (m := X.mg) (by rw [I3.ok.glob]; exact I3.mod.glob.keeps I3.bk) e1 e2 (I3.bk _ _ e5) e6 e7 e8 ?_
    intro h' hns sb
    generalize hs3 : ({ s2 with heap := h3, toks := tk } : Shared) = s3 at I3 ⊢
    have hh3 : s3.heap = h3 := by rw [← hs3]
    have hg3 : s3.gens = s2.gens := by rw [← hs3]
    have ho3 : s3.os = s2.os := by rw [← hs3]
    have hns : h'.Ns s3.heap.objs.size (fun y => if y = ".0" then some (Value.ref it) else none) := by rw [hh3]; exact hns
    have sb : Heap.SameBut s3.heap.objs.size (pushCells (s3.heap.push { cls := .type "frame", data := .dict #[] }) scope.names) h' := by rw [hh3]; exact sb
    have kp4 : ∀ b o, s3.heap.get? b = some o → h'.get? b = some o := fun b o e => sb.extBut b o (Nat.ne_of_lt (Heap.lt_size e)) (pushCells_keeps _ _ _ _ (Heap.get?_push_of_some _ e))
    have lt4 : s3.heap.objs.size < h'.objs.size := hns.lt
    have st3 : tn 0 s3.heap := T'.keep _ _ _ st2 fun b hb o e => by rw [hh3]; exact kp3 b o (nPf b hb) e
    have st4 : tn 0 h' := T'.keep _ _ _ st3 fun b _ o e => kp4 b o e
    have f3 : ∀ b ∈ fp, FpOk X pins H3 b ∧ b < s3.heap.objs.size := fun b hb => ⟨⟨hn3 b hb, (f2 b hb).2⟩, by rw [hh3]; exact Nat.lt_of_lt_of_le (szf b hb) sz3⟩
    refine ⟨H3, s3, fp, I3, fun b hb => ⟨(f3 b hb).1.2.2.2.1, (f3 b hb).1.2.1, (f3 b hb).1.2.2.2.2.1, (f3 b hb).1.2.2.2.2.2⟩, ?_⟩
    have goal : ∀ (go : Obj) (nm qn : Value) (tk2 : Nat), go.cls = .type "generator" → go.data = .fields #[.int s3.gens.size 0, nm, qn] → go.slots = #[] → (∀ h : Heap, (h.push go).get? h.objs.size = some go) →
        GMade X.prog X.w (k + 1) X.stack H3 s3 fp cont XF (.ref h'.objs.size) { s3 with
            gens := s3.gens.push (.fresh (.compStart (.GeneratorExp elt [⟨tg, iter, ifs, 0⟩] scope gpos) 0 (.ref it) .none (gEnv X scope s3.heap.objs.size code))), toks := tk2, heap := h'.push go } := by
      intro go nm qn tk2 hgc hgd0 hgs hgp
      have hgen : ∀ h : Heap, h.get? h'.objs.size = some go → h.IsGen h'.objs.size s3.gens.size := fun h e => ⟨go, nm, qn, e, hgc, hgd0, hgs⟩
      have hpushed : (h'.push go).get? h'.objs.size = some go := hgp _
      have lim3 : s3.heap.NoLimit := I3.nolimit
      have ab : AllBare (s3.gens.push (.fresh (.compStart (.GeneratorExp elt [⟨tg, iter, ifs, 0⟩] scope gpos) 0 (.ref it) .none (gEnv X scope s3.heap.objs.size code)))) := I3.bare.push rfl
      refine ⟨h'.objs.size, s3.gens.size, _, rfl, Nat.le_of_lt lt4, ?_, hgen _ hpushed, Array.getElem?_push_size .., rfl, ab, (lim3.keeps kp4).keeps fun b o e => Heap.get?_push_of_some _ e, fun b o e => Heap.get?_push_of_some _ (kp4 b o e), ?_⟩
      · show _ < (h'.push _).objs.size
        rw [Heap.size_push]; exact Nat.lt_succ_self _
      intro Aw Sx s5 hrw hfr hSx hk5 hSo hos hba
      have I4 := gen_start (A := Aw) (code := code) (it := .ref it) (tk := tk2) I3 hN B f3 hrw.hd hfr hns (fun b o ne e => sb.extBut b o ne e) ab
      have kp5 : ∀ b o, h'.get? b = some o → s5.heap.get? b = some o := fun b o e => hk5 b o (Heap.get?_push_of_some _ e)
      have I5 : Inv (genX X Aw s3 H3 fp (gEnv X scope s3.heap.objs.size code) []) [] (wipe σ (own.map (·.2))) H3 s5 :=
        I4.call' (ch := []) (hos.trans rfl) (Un.kept kp5) (I4.hok.kept kp5) hba fun b z => by simp at z
      have hSz : h'.objs.size < Sx := by
        have hSx' : (h'.push go).objs.size ≤ Sx := hSx
        rw [Heap.size_push] at hSx'
        exact hSx'
      obtain ⟨cS, heS⟩ := hSo
      have hea : s5.heap.get? h'.objs.size = some go := hk5 h'.objs.size go hpushed
      have hgd : ∀ v, go.data ≠ .cell v := fun v q => by rw [hgd0] at q; cases q
      have young : ∀ b, h'.objs.size ≤ b → H3 b = none ∧ b ≠ s3.heap.objs.size ∧ b ∉ frs X.stack ∧ s3.heap.objs.size ≤ b ∧ ∀ y c, (gEnv X scope s3.heap.objs.size code).cells.lookup y = some c → c ≠ b := fun b hb => by
        refine ⟨I4.hok.fresh hb, Nat.ne_of_gt (Nat.lt_of_lt_of_le lt4 hb), I4.nofs hb, Nat.le_trans (Nat.le_of_lt lt4) hb, fun y c e z => ?_⟩
        obtain ⟨v, ob, ho, _⟩ := I4.cell y c e
        have := Heap.lt_size ho
        rw [z] at this
        exact absurd (Nat.lt_of_lt_of_le this hb) (Nat.lt_irrefl _)
      have hSne : h'.objs.size ≠ Sx := Nat.ne_of_lt hSz
      have ltf : ∀ b ∈ fp, b < h'.objs.size := fun b hb => Nat.lt_trans (f3 b hb).2 lt4
      have I6 : Inv (genX X Aw s3 H3 fp (gEnv X scope s3.heap.objs.size code) [(h'.objs.size, go)]) [(Sx, lstObj #[] cS)] (wipe σ (own.map (·.2))) H3 s5 := by
        refine ⟨⟨I5.ok.mod, I5.ok.kind, I5.ok.glob, I5.ok.blt, I5.ok.above, I5.ok.inj, I5.ok.has, I5.ok.cab, I5.ok.hd, I5.ok.frames, I5.ok.stk, I5.ok.exf, I5.ok.bs, I5.ok.bsz, I5.ok.noex, I5.ok.exfs, I5.ok.funs, I5.ok.frf⟩, I5.os, I5.bare, I5.base, I5.loc, I5.cell, I5.free, I5.freeC, fun p hp => ?_, I5.hok, I5.len⟩
        rcases List.mem_append.mp hp with z | z
        · rw [List.mem_singleton.mp (show p ∈ [(h'.objs.size, go)] from z)]
          obtain ⟨y1, y2, y3, _, _⟩ := young h'.objs.size (Nat.le_refl _)
          exact ⟨hea, y1, y2, y3, hgd⟩
        · rw [List.mem_singleton.mp z]
          obtain ⟨y1, y2, y3, _, _⟩ := young Sx (Nat.le_of_lt hSz)
          exact ⟨heS, y1, y2, y3, fun v q => by cases q⟩
      have hAp : Apart (genX X Aw s3 H3 fp (gEnv X scope s3.heap.objs.size code) [(h'.objs.size, go)]) Sx := by
        obtain ⟨_, y2, _, y4, y5⟩ := young Sx (Nat.le_of_lt hSz)
        exact ⟨y4, y2, y5⟩
      obtain ⟨W, ⟨m0, w0⟩, turn⟩ := q H3 hE hT3
      have hrd := hrw.deeper (gEnv X scope s3.heap.objs.size code)
      have st5 : tn 0 s5.heap := T'.keep _ _ _ st4 fun b _ o e => kp5 b o e
      have loop := ge_loop (Q := cont) (pos := gpos) (scope := scope) (iter := iter) (s3 := s3) T' hgen B.co (fun z => Nat.lt_irrefl _ (Nat.lt_trans (ltf _ z) hSz)) (fun z => Nat.lt_irrefl _ (ltf _ z)) hSne hAp (hg _ _ _ _ _ _ _ hrd) (ht _ _ _ _ _ _ _ hrd) (he _ _ _ _ _ _ _ hrd) turn m0 0 sizeLine [] H3 s5 s5 w0 rfl ⟨#[], cS, .nil, I6⟩ st5 hn3
      show Seg _ Aw _ _ _ s5 _ ((compStart (.GeneratorExp elt [⟨tg, iter, ifs, 0⟩] scope gpos) 0 (.ref it) .none (gEnv X scope s3.heap.objs.size code)).onRaise (leaving (gEnv X scope s3.heap.objs.size code))) [] s5
      unfold compStart
      rw [Sem.onRaise_eq_wrap]
      show Seg _ Aw _ _ _ s5 _ ((ask >>= _).wrap _ _ _ _) [] s5
      refine seg_bind_wrap (wpAny_askSetting ?_)
      split
      · exact seg_again rfl loop
      · first
          | exact seg_bind_wrap (wpAny_rule (seg_bind_wrap (wpAny_standAt (seg_bind_wrap (T'.self _ 0 s5 _ _ st5 (seg_again rfl loop))))))
          | (refine seg_bind_wrap (wpAny_rule ?_); show Seg _ Aw _ _ _ s5 _ ((standAt iter.pos >>= _).wrap _ _ _ _) [] s5; exact seg_bind_wrap (wpAny_standAt (seg_bind_wrap (T'.self _ 0 s5 _ _ st5 (seg_again rfl loop)))))
    exact goal _ _ _ _ rfl rfl rfl fun h => Heap.get?_push_size _ rfl
  cases hf : codeAmong gpos ps.toList with
  | none =>
    refine wpAny_genexprCodeX hcode (cd.code hPs htr) (cd.tab hPs) hf fun c' h' tk hx hge hlt hco' hrec htab' _ => ?_
    obtain ⟨o1, vs, f1, tf, fl, tg', inF, tx, tt', op, _, _, _, _, _, _, _, _, _, htr', _⟩ := hco'
    obtain ⟨c2, oc, cvs, ct, e2, hoc, hcd, hcv⟩ := hrec
    cases e2
    have hge' : s2.heap.objs.size ≤ c' := hge
    have hPlt : P < s2.heap.objs.size := Heap.lt_size hPs
    have nC : H2 c' = none := I2.hok.fresh hge'
    have I3 := LamX.inv_table (t' := tk) (more := #[rawInt gpos.line, rawInt gpos.col, .ref c']) (h' := h') I2 hP (fun b u hb e => hx b u hb e) htab'.2 hge' ⟨oc, cvs, ct, hoc, hcd, hcv⟩
    have hE : LamX.ExtN H2 (upd (upd H2 P (.tbl (ps ++ #[rawInt gpos.line, rawInt gpos.col, .ref c']))) c' (LamX.CodeO c' (X.env.qual ++ "<genexpr>"))) := fun b o e n => by
      rw [upd_ne (ne_of_none e nC), upd_ne (fun z => n ps (Option.some.inj (e.symm.trans (by rw [z]; exact hP))))]
      exact e
    have eL : (ps ++ #[rawInt gpos.line, rawInt gpos.col, .ref c']).toList = ps.toList ++ [rawInt gpos.line, rawInt gpos.col, .ref c'] := by simp
    refine main _ h' tk _ I3 hE (fun p hp => ?_) (fun b hb => ?_) (fun b o hb e => hx b o hb e) (Nat.le_trans hge (Nat.le_of_lt hlt))
    · by_cases hb : p.1 = P
      · rw [hu p hp hb, hb]
        refine ⟨_, by rw [upd_ne (ne_of_none hP nC), upd_same], htr', fun p' cv hcv => ?_⟩
        rw [eL] at hcv
        rcases LamX.among_app _ htr hcv with z | z
        · obtain ⟨c0, e1, e2⟩ := hca p' cv z
          exact ⟨c0, e1, hE _ _ e2 LamX.codeO_ne⟩
        · exact ⟨c', z, upd_same⟩
      · obtain ⟨ps', a1, a2, a3⟩ := hT p hp
        refine ⟨ps', by rw [upd_ne (ne_of_none a1 nC), upd_ne hb]; exact a1, a2, fun p' cv hcv => ?_⟩
        obtain ⟨c0, e1, e2⟩ := a3 p' cv hcv
        exact ⟨c0, e1, hE _ _ e2 LamX.codeO_ne⟩
    · rw [upd_ne (Nat.ne_of_lt (Nat.lt_of_lt_of_le (szf b hb) hge')), upd_ne (nPf b hb)]
      exact (f2 b hb).1
  | some cv =>
    refine wpAny_genexprCode_hit hcode (cd.code hPs htr) hf ?_
    exact main cv s2.heap s2.toks H2 I2 (LamX.ExtN.refl H2) hT (fun b hb => (f2 b hb).1) (fun b o _ e => e) (Nat.le_refl _)
end
end Ts


/-! What eats a generator whole: tuple(g). -/
namespace Ts
open PySem PySem.Spec PyProof.Rows L2 GenW
section
variable {P : Program} {w : World} {outer : List Env} {H : Hp} {sc s : Shared} {ex : List Addr} {Q : List V → Hp → Prop} {A : Around} {k : Nat} {u : Value} {E : Value → Shared → Prop}
theorem no_exc {e : Value} {s' : Shared} (hc : L2.CX P w outer H sc XF e s') : False := by
  obtain ⟨_, _, _, _, _, _, _, _, _, _, _, _, _, _, _, _, z⟩ := hc
/-- all that a generator hands out, in a list of the builtin's own -/
theorem collectG {Q' : List Value → Shared → Prop} (hr : Room (k + 3) A) (hfr : A.frames = some outer) (h : GMade P w k outer H sc ex Q XF u s)
    (hQ : ∀ (S : Addr) (s' : Shared) (acc : Array Value) (H' : Hp) (ys : List V), s.heap.objs.size ≤ S → Vals ys acc.toList → ys.length ≤ sizeLine → s'.os = sc.os → AllBare s'.gens → Un (frs outer) ex H H' sc.heap s'.heap → HOk P w H' s'.heap → H' S = none → Q ys H' → Q' acc.toList s') :
    wpAny (model P w) A (collect u) Q' E s := by
  obtain ⟨a, g, c, rfl, ha1, ha2, hg, hgs, hos, hb, hl, hkp, wake⟩ := h
  have hSa : s.heap.objs.size ≠ a := Nat.ne_of_gt ha2
  have hcl : cStatics < s.heap.objs.size := let ⟨_, hn, _⟩ := hl; hn.lt
  have hSc : s.heap.objs.size ≠ cStatics := Nat.ne_of_gt hcl
  unfold collect
  refine wpAny_bind (wpAny_runValue (codeAny_builtin F.entry_proto_collect ?_))
  rw [Around.under_plainId F.plain_proto_collect _]
  show wpAny _ A.in1 (newList [] >>= fun l => again (.builtin "list.__iadd__" ⟨[l, .ref a], []⟩)) _ _ s
  refine wpAny_bind (wpAny_newObj_type ?_)
  refine wpAny_pure ⟨plainId_quiet F.plain_list_iadd _, codeAny_builtin F.entry_list_iadd ?_⟩
  rw [Around.under_plainId F.plain_list_iadd _]
  show wpAny _ A.in1 (Builtin.List.listExtendWith (.ref s.heap.objs.size) (.ref a) (.ref s.heap.objs.size)) _ _ _
  unfold Builtin.List.listExtendWith
  have up : ∀ (h : Heap) (f : Obj → Obj), (∀ b o, s.heap.get? b = some o → h.get? b = some o) → ∀ b o, s.heap.get? b = some o → (h.update s.heap.objs.size f).get? b = some o := fun h f q b o e =>
    (Heap.get?_update_other _ _ (Ne.symm (Nat.ne_of_lt (Heap.lt_size e)))).trans (q b o e)
  have k1 : ∀ b o, s.heap.get? b = some o → (s.heap.push { cls := .type "list", data := .seq ([] : List Value).toArray }).get? b = some o := fun b o e => Heap.get?_push_of_some _ e
  have gty : ∀ {h : Heap}, (∀ b o, s.heap.get? b = some o → h.get? b = some o) → h.IsGen a g := fun {h} q => hg.keeps q
  have hS1 : (s.heap.push { cls := .type "list", data := .seq ([] : List Value).toArray }).get? s.heap.objs.size = some { cls := .type "list", data := .seq ([] : List Value).toArray } := Heap.get?_push_size _ rfl
  refine wpAny_bind (wpAny_typeOf (Heap.IsGen.typeIs (s := { s with heap := _ }) (gty k1)) ?_)
  have h1 : Builtin.List.listSameRef (.ref s.heap.objs.size) (.ref a) = false := by simp [Builtin.List.listSameRef, hSa]
  have h2 : (Value.type "generator" == Value.type "list") = false := by decide
  have h3 : (Value.type "generator" == Value.type "tuple") = false := by decide
  simp only [h1, h2, h3, Bool.or_false, Bool.false_eq_true, if_false]
  refine wpAny_bind (wpAny_pyIter_gen (s := { s with heap := _ }) (gty k1) ?_)
  refine wpAny_bind (wpAny_holding ?_)
  unfold Builtin.List.listLengthHint
  refine wpAny_bind (wpAny_specialOf (Heap.IsGen.typeIs (s := { s with heap := _ }) (gty k1)) F.gen_no_len ?_)
  show wpAny _ A.in1 (specialOf (Value.ref a) (Str.ofString "__length_hint__") >>= _) _ _ _
  refine wpAny_bind (wpAny_specialOf (Heap.IsGen.typeIs (s := { s with heap := _ }) (gty k1)) F.gen_no_hint ?_)
  refine wpAny_pure ?_
  show wpAny _ A.in1 (rule "list.extend.makes-room" >>= fun _ => Builtin.List.listTouch (.ref s.heap.objs.size) >>= fun _ =>
    again (.builtin "list.extend.loop" ⟨[.ref s.heap.objs.size, .ref a, .ref s.heap.objs.size], []⟩)) _ _ _
  refine wpAny_bind (wpAny_rule ?_)
  refine wpAny_bind ?_
  show wpAny _ A.in1 (updateSeq s.heap.objs.size (·.push .none) >>= fun _ => updateSeq s.heap.objs.size (·.pop)) _ _ _
  refine wpAny_bind (wpAny_updateSeq hS1 rfl ?_)
  have hS3 := Heap.get?_update_self (Obj.mapSeq (·.push Value.none)) hS1 rfl
  refine wpAny_updateSeq hS3 rfl ?_
  have hS4 := Heap.get?_update_self (Obj.mapSeq (·.pop)) hS3 rfl
  have k4 := up _ (Obj.mapSeq (·.pop)) (up _ (Obj.mapSeq (·.push Value.none)) k1)
  refine wpAny_pure ⟨plainId_quiet F.plain_extend_loop _, ?_⟩
  refine drain (P := P) (w := w) (outer := outer) (H := H) (sc := sc) (ex := ex) (Q := Q) (EX := XF) (A := A) (g := g) hr.hd (by have := hr.dp; omega) hSa hSc
    (fun s' acc c H' ys q1 q2 q3 q4 q5 q6 q7 q8 q9 => ?_) (fun e s' hc => (no_exc hc).elim)
    sizeLine _ (gty k4) (hl.keeps k4) ⟨_, hgs, rfl, ?_⟩
  · show wpAny _ A (load s.heap.objs.size >>= _) _ _ s'
    refine wpAny_bind (wpAny_load q1 ?_)
    exact wpAny_pure (hQ _ s' acc H' ys (Nat.le_refl _) q2 q3 q4 q5 q6 q7 q8 q9)
  · refine wake _ _ _ ⟨hr.hd, ?_, ?_⟩ hfr (Nat.le_refl _) k4 ⟨_, hS4⟩ hos (allBare_setGen (s := { s with heap := _ }) hb rfl)
    · have := hr.dp
      show A.depth + 3 * k + 5 < _
      omega
    · have := hr.un
      show A.units + 1 + 1 + 16 * k + 200 < _
      omega
theorem code_tupG {Q₁ : Value → Shared → Prop} {a : Addr} {g : Nat} (hr : Room (k + 4) A) (hfr : A.frames = some outer) (h : GMade P w k outer H sc ex Q XF (.ref a) s) (hg : s.heap.IsGen a g)
    (hQ : ∀ (S : Addr) (s' : Shared) (acc : Array Value) (H' : Hp) (ys : List V), s.heap.objs.size ≤ S → Vals ys acc.toList → ys.length ≤ sizeLine → s'.os = sc.os → AllBare s'.gens → Un (frs outer) ex H H' sc.heap s'.heap → HOk P w H' s'.heap → H' S = none → Q ys H' →
      Q₁ (.ref s'.heap.objs.size) { s' with heap := s'.heap.push { cls := .type "tuple", data := .seq acc } }) :
    codeAny (model P w) A (.call (.builtin "tuple.__new__") ⟨[.type "tuple", .ref a], []⟩) (wants Q₁ E) s := by
  refine codeAny_of_tree ?_
  show wpAny _ A.in1 (do checkBuiltinCall "tuple.__new__" ⟨[.type "tuple", .ref a], []⟩; again (.builtin "tuple.__new__" ⟨[.type "tuple", .ref a], []⟩)) _ _ s
  refine wpAny_bind (wpAny_of_eq (F.newCall_tuple_1 _) (wpAny_pure ⟨plainId_quiet F.plain_tuple_new _, codeAny_builtin F.entry_tuple_new ?_⟩))
  rw [Around.under_plainId F.plain_tuple_new _]
  have hsub := sub_tuple_self
  have hinit := init_tuple_lookup
  have hmh := madeHere_tuple
  have hTI := hg.typeIs
  have hcol := fun (Q' : List Value → Shared → Prop) (E' : Value → Shared → Prop) hq => collectG (Q' := Q') (E := E') (A := A.in1) hr.in1 hfr h hq
  wp_walk using wpAny_typeOf hTI, hcol
  intro S s' acc H' ys q1 q2 q3 q4 q5 q6 q7 q8 q9
  show wpAny _ _ (Builtin.Tuple.tupleExact acc.toList.toArray >>= fun v => ret v) _ _ _
  unfold Builtin.Tuple.tupleExact
  have hz : acc.size ≤ sizeLine := by
    have e1 := q2.length
    have e2 : acc.toList.length = acc.size := by simp
    omega
  refine wpAny_bind (wpAny_newObj_type ?_ (by show acc.toList.toArray.size ≤ sizeLine; simp only [Array.toArray_toList]; exact hz))
  refine wpAny_pure ?_
  have e : acc.toList.toArray = acc := by simp
  rw [e]
  exact hQ S s' acc H' ys q1 q2 q3 q4 q5 q6 q7 q8 q9
theorem call_tupGen {Q' : Value → Shared → Prop} {u : Value} (hr : Room (k + 5) A) (hfr : A.frames = some outer) (h : GMade P w k outer H sc ex Q XF u s)
    (hQ : ∀ (S : Addr) (s' : Shared) (acc : Array Value) (H' : Hp) (ys : List V), s.heap.objs.size ≤ S → Vals ys acc.toList → ys.length ≤ sizeLine → s'.os = sc.os → AllBare s'.gens → Un (frs outer) ex H H' sc.heap s'.heap → HOk P w H' s'.heap → H' S = none → Q ys H' →
      Q' (.ref s'.heap.objs.size) { s' with heap := s'.heap.push { cls := .type "tuple", data := .seq acc } }) :
    wpAny (model P w) A (call (.type "tuple") [u]) Q' E s := by
  obtain ⟨a, g, c, rfl, ha1, ha2, hg, hrest⟩ := id h
  refine callType_codes (Q₁ := fun obj s₁ => s₁.TypeIs obj "tuple" ∧ Q' obj s₁) F.called_tuple (F.typeCall_tuple_1 _) F.entry_object_init
    (code_tupG hr.in1 hfr h hg fun S s' acc H' ys q1 q2 q3 q4 q5 q6 q7 q8 q9 => ⟨⟨_, Heap.get?_push_size _ rfl, rfl⟩, hQ S s' acc H' ys q1 q2 q3 q4 q5 q6 q7 q8 q9⟩) fun obj s₁ h₁ => ?_
  exact ⟨h₁.1, F.args_object_init_2 obj _, object_init_meets F.called_tuple.init.lookup F.called_tuple.made (by decide) P w A.in1 _ s₁ ⟨h₁.1, rfl, h₁.2⟩⟩
end
section
variable {X : Cx} {k : Nat}
def tTupG (tg : TGen) : TE := fun σ H Q => tg σ H fun out H2 => out.length ≤ sizeLine ∧ ∀ p, H2 p = none → Q (.ref p) (upd H2 p (.tup out))
/-- behind a generator that was eaten whole -/
theorem Inv.eaten {pins : List (Addr × Obj)} {σ : L2.St} {H H' : Hp} {sc s' : Shared} {ex : List Addr} (I : Inv X pins σ H sc) (hex : ExOk X pins ex) (os : s'.os = sc.os) (hb : AllBare s'.gens) (un : Un (frs X.stack) ex H H' sc.heap s'.heap) (hok : HOk X.prog X.w H' s'.heap) : Inv X pins σ H' s' :=
  I.call' (ch := ex) os un hok hb hex
theorem pe_tupG {e : Expr} {tg : TGen} {nm : Str} {p pos : Pos} (h : PGen X k e tg XF) (hr : Room (k + 5) X.A) (hg : Gl X nm) (hmg : X.mg nm = none) (hv : bootBuiltins nm = some (.type "tuple")) (hnm : nm ≠ "__name__" := by decide) (hdb : (nm == ("__debug__" : Str)) = false := by decide)
    (he : starEach [e] X.env = (false, eval e X.env) :: starEach [] X.env := by rfl) : PE X (.Call (.Name nm p) [e] [] pos) (tTupG tg) := by
  refine ⟨fun pins s σ H Q I hq => ?_⟩
  refine wpAny_Call_Name_kw (ld_blt I hg hmg hv ?_ hnm hdb)
  refine PyProof.Rows.callWith_type1 ?_ he rfl
  rw [he]
  show wpAny _ _ (spliced ((false, eval e X.env) :: backTo pos (starEach [] X.env))) _ _ s
  refine Calls.spliced_cons (thn (h.run pins s σ H _ I hq) fun u s1 ⟨H1, sc, ex, I1, hex, hG⟩ => ?_)
  refine Calls.spliced_nil ?_
  refine call_tupGen hr I1.ok.frames hG fun S s' acc H' ys q1 q2 q3 q4 q5 q6 q7 q8 q9 => ?_
  have I2 := Inv.eaten I1 hex q4 q5 q6 q7
  exact ⟨.ref s'.heap.objs.size, _, I2.laid (t' := s'.toks) (o := .tup ys) (fun b ob q => Heap.get?_push_of_some _ q) (Nat.le_refl _) ⟨q3, acc.toList, q2, by
    have e : acc.toList.toArray = acc := by simp
    rw [e]
    exact IsTup.new _ _⟩, rfl, q9.2 _ (I2.hok.fresh (Nat.le_refl _))⟩
end
end Ts


/-! tuple(g) by data; faults told by two clauses. -/
namespace Ts
variable [Tt]
open PySem PySem.Spec PyProof.Rows L2
section
variable {K : PySem.W.Frag} {E : L2.St → XK} {Δ : En} {te : TE} {tt : TT} {R : D → Prop} {X : Addr → Prop} {wi : TI} {Rw : List D → Prop}
/-- tuple(elt for target in iter if ..) -/
theorem ev_tupGe {g : TG} {vs : List Nat} (hw : Ew K E wi Δ Rw X) (I : List D → Nat → List D → Prop) (h0 : ∀ items, Rw items → I items 0 [])
    (hs : ∀ items i d acc, Rw items → items[i]? = some d → I items i acc → ∃ js Δ2, (∀ j ∈ js, j ∈ vs) ∧ Tg K g js (wipeE Δ vs) d Δ2 ∧
      Et K E00 tt Δ2 (fun b => (b = true → Ev K E00 te Δ2 (fun e => acc.length < sizeLine ∧ I items (i + 1) (acc ++ [e])) fun _ => False) ∧ (b = false → I items (i + 1) acc)) fun _ => False)
    (hd : ∀ items acc, Rw items → I items items.length acc → acc.length ≤ sizeLine ∧ R (.tup acc)) : Ev K E (tTupG (tGe Tt.tb wi g tt te vs)) Δ R X := fun q G0 H0 G H σ Q s k kx => by
  refine hw q G0 H0 G H σ _ s (fun J items Gw Hw gw wk rw_ => ?_) kx
  refine ⟨(s.go gw).rs.tb, fun H2 e2 t2 => ?_⟩
  have gw2 : Gr q G H Gw H2 := s.tr gw (Gr.tabs gw.sub e2 t2)
  refine ⟨fun i m ys H' => m = items.length - i ∧ i ≤ items.length ∧ ∃ G' acc, Gr q G H G' H' ∧ Exx Gw G' ∧ RpL K G' ys acc ∧ I items i acc, ⟨items.length, rfl, Nat.zero_le _, Gw, [], gw2, Exx.refl _, .nil, h0 items rw_⟩, ?_⟩
  rintro i m ys H1 ⟨rfl, hi, G1, acc, g1, e1, r1, i1⟩
  obtain ⟨wg, wst⟩ := wk G1 H1 e1 g1.sub
  by_cases hlt : i < items.length
  · obtain ⟨go, yl⟩ := wg i hlt
    refine .inr ⟨go, fun ys' H' => ∃ G' acc, Gr q G H G' H' ∧ Exx Gw G' ∧ RpL K G' ys' acc ∧ I items (i + 1) acc, fun ys' H' h => ⟨items.length - (i + 1), by omega, rfl, hlt, h⟩, fun x H2 y => ?_⟩
    obtain ⟨G2, d, g2, hd', rx⟩ := yl x H2 y
    have s1 := s.go g1
    have s2 := sta_wipe (s1.go g2.any) vs
    obtain ⟨js, Δ2, hjs, ht, hb⟩ := hs items i d acc rw_ hd' i1
    refine ht q G0 H0 G2 H2 (wipe σ vs) x _ s2 rx fun σ3 s3 w3 => ⟨(w3 vs hjs).trans (wipe_wipe fun v hv => hv), ?_⟩
    refine hb q G0 H0 G2 H2 σ3 _ s3 (fun b G3 H3 g3 p3 => ?_) fun _ _ _ _ z => z.elim
    have g13 : Gr q G1 H1 G3 H3 := s1.tr g2.any g3
    cases b with
    | false => exact iteF ⟨G3, acc, s.tr g1 g13, e1.trans g13.ex, r1.ex g13.ex, p3.2 rfl⟩
    | true =>
      refine iteT ((p3.1 rfl) q G0 H0 G3 H3 σ3 _ (s3.go g3) (fun u e G4 H4 g4 r4 p4 => ?_) fun _ _ _ _ z => z.elim)
      have g14 : Gr q G1 H1 G4 H4 := s1.tr g13 g4
      exact ⟨by rw [r1.length]; exact p4.1, G4, acc ++ [e], s.tr g1 g14, e1.trans g14.ex, (r1.ex g14.ex).append (.cons r4 .nil), p4.2⟩
  · have e : i = items.length := by omega
    subst e
    obtain ⟨hl, hR⟩ := hd items acc rw_ i1
    refine .inl ⟨wst, by rw [r1.length]; exact hl, by rw [r1.length]; exact hl, fun p hp => ?_⟩
    have g := Gr.new (o := .tup ys) g1.sub hp
    exact k _ _ _ _ (s.tr g1 g.any) (.tup (.inl (.inl upd_same)) (r1.ex g.ex)) hR
/-- .. no test, each element with its value -/
theorem ev1_tupGe {g : TG} {vs : List Nat} {items : List D} (f : Nat → D → D) (hw : Ew K E wi Δ (· = items) X) (hl : items.length ≤ 1000000)
    (hs : ∀ i d, items[i]? = some d → ∃ js Δ2, (∀ j ∈ js, j ∈ vs) ∧ Tg K g js (wipeE Δ vs) d Δ2 ∧ Ev K E00 te Δ2 (· = f i d) fun _ => False) : Ev K E (tTupG (tGe Tt.tb wi g tYes te vs)) Δ (· = .tup (items.mapIdx f)) X := by
  refine ev_tupGe hw (fun its i acc => acc = (its.take i).mapIdx f) (fun its _ => rfl) (fun its i d acc e hi ea => ?_) fun its acc e ea => ?_
  · subst e
    obtain ⟨js, Δ2, h1, h2, h3⟩ := hs i d hi
    have hlt := (List.getElem?_eq_some_iff.mp hi).1
    refine ⟨js, Δ2, h1, h2, et_yes.imp fun b eb => ⟨fun _ => h3.imp fun z ez => ⟨?_, ?_⟩, fun c => by rw [eb] at c; cases c⟩⟩
    · rw [ea, List.length_mapIdx, List.length_take]
      exact szlt (by omega)
    · have et : its.take (i + 1) = its.take i ++ [d] := by
        rw [List.take_add_one, hi]; rfl
      rw [et, List.mapIdx_append, ea, ez]
      have lt : (its.take i).length = i := by rw [List.length_take]; omega
      simp [lt]
  · subst e
    rw [ea, List.take_length]
    exact ⟨by rw [List.length_mapIdx]; exact szl hl, rfl⟩
end
/-! ### told by two clauses -/
def TTold2 (K : PySem.W.Frag) (C1 : Addr) (r1 : Str) (C2 : Addr) (r2 : Str) : (XK → Hp → VK → Prop) → Hp → VK → Prop := fun tl H Q =>
  tl (fun cls _ H' => ∃ b, PySem.W.exmOne K cls (.ref C1) = some b ∧ (b = true → Q (.str r1) H') ∧ (b = false → ∃ b2, PySem.W.exmOne K cls (.ref C2) = some b2 ∧ (b2 = true → Q (.str r2) H') ∧ (b2 = false → False))) H Q
section
variable {X : Cx}
theorem told_gives2 {Ng : List Str} {x a q r1 r2 e1 e2 : Str} {sg : Scope} {g C1 C2 : Addr} {cdg : Value} {j1 j2 : Nat} {p1 p2 p3 p4 p5 p6 p7 p8 p9 p10 p11 p12 : Pos} (hg1 : sg.names.lookup e1 = some .globalImplicit) (hg2 : sg.names.lookup e2 = some .globalImplicit) (hm1 : X.mg e1 = some (.ref C1)) (hm2 : X.mg e2 = some (.ref C2))
    (hd1 : (e1 == ("__debug__" : Str)) = false) (hd2 : (e2 == ("__debug__" : Str)) = false) (h0 : ∀ f : Addr, (L2.start Ng [V.ref f])[0]? = some (some (V.ref f))) :
    LamX.GivesTo X Ng x sg g cdg [.Try [.Return (some (.Call (.Name a p1) [] [] p2)) p3] [.ExceptHandler (some (.Name e1 p4)) none [.Return (some (.Constant (.str r1) j1 p5)) p6] p7, .ExceptHandler (some (.Name e2 p8)) none [.Return (some (.Constant (.str r2) j2 p9)) p10] p11] [] [] p12] a q (TTold2 X.K C1 r1 C2 r2) := by
  intro f c' s H Q tl act hc h
  have gl1 : Gl (cxOf C8.CX0 X.prog X.w X.K X.mg X.base Ng x sg g cdg X.A X.stack s H C8.E0).nox e1 := hg1
  have gl2 : Gl (cxOf C8.CX0 X.prog X.w X.K X.mg X.base Ng x sg g cdg X.A X.stack s H C8.E0).nox e2 := hg2
  refine ⟨_, pss_one (ps_try_many (X := (cxOf C8.CX0 X.prog X.w X.K X.mg X.base Ng x sg g cdg X.A X.stack s H C8.E0).nox)
      (tb := fun W D σ H => ∃ Ech : XK, (∀ cls d σ' H', Ech cls d H' → W cls d σ' H') ∧ σ[0]? = some (some (.ref f)) ∧ H c' = some (LamX.CodeO c' q) ∧ tl Ech H D.rt)
      rfl rfl LamX.takes0 (fun W pn xe tk _ => ?_) (.cons (c := .ref C1) (ts := fun _ _ _ => tRet (tC (.str r1))) ⟨gl1, hd1, .inl hm1⟩ (fun a oe cls d pn _ _ => pss_one (ps_ret pe_str)) (.cons (c := .ref C2) (ts := fun _ _ _ => tRet (tC (.str r2))) ⟨gl2, hd2, .inl hm2⟩ (fun a oe cls d pn _ _ => pss_one (ps_ret pe_str)) .nil))), ?_⟩
  · refine ⟨fun pins s' σ H' D I h' => ?_⟩
    obtain ⟨Ech, hW, h1, h2, h3⟩ := h'
    exact (pss_one (ps_ret (pos := p3) (act W pn xe Ech p1 p2 tk hW))).run pins s' σ H' D I ⟨h1, h2, h3⟩
  · exact ⟨_, fun cls d σ' H' ⟨b, z1, z2, z3⟩ => ⟨b, z1, fun hb a _ => z2 hb, fun hb => by
      obtain ⟨b2, y1, y2, y3⟩ := z3 hb
      exact ⟨b2, y1, fun hb a _ => y2 hb, fun hb => y3 hb⟩⟩, h0 f, hc, h⟩
theorem pe_told2 {k : Nat} {c P C1 C2 g : Addr} {x e1 e2 r1 r2 : Str} {pg : Arguments} {sg : Scope} {fd : FuncData} {j1 j2 : Nat} {p1 p2 p3 p4 p5 p6 p7 p8 p9 p10 p11 p12 lpos p pos : Pos} {params : Arguments} {body : Expr} {scope : Scope} {t : XK → TE}
    (F : FunD X.K x x pg [.Try [.Return (some (.Call (.Name "what" p1) [] [] p2)) p3] [.ExceptHandler (some (.Name e1 p4)) none [.Return (some (.Constant (.str r1) j1 p5)) p6] p7, .ExceptHandler (some (.Name e2 p8)) none [.Return (some (.Constant (.str r2) j2 p9)) p10] p11] [] [] p12] sg [] [] g fd)
    (hm : X.mg x = some (.ref g)) (hb : Binds X.K fd ["what"] []) (Sg : FnScope ["what"] ["what"] sg) (hva : Vis sg "what") (hg1 : sg.names.lookup e1 = some .globalImplicit) (hg2 : sg.names.lookup e2 = some .globalImplicit) (hm1 : X.mg e1 = some (.ref C1)) (hm2 : X.mg e2 = some (.ref C2))
    (TB : LamX.TabB X.base X.mg c P) (hcode : X.env.code = .ref c) (hmT : (P, X.env.qual ++ "<lambda>") ∈ Tt.tb) (hu : ∀ p ∈ Tt.tb, p.1 = P → p.2 = X.env.qual ++ "<lambda>") (hr : Room (k + 2) X.A) (hg : Gl X x) (L : LamX.LamS X.env.scope scope) (hdef : defaultsOf params X.env = ([], []))
    (hbind : ∀ (q : Str) (cl : List (Str × Addr)) (pm cv ctv : Value), bindArgs (PySem.W.kla_fn "<lambda>" q params body scope cl pm cv ctv) ⟨[], []⟩ = pure [])
    (hbody : ∀ (A : Around) (outer : List Env) (s : Shared) (H : Hp) (E : XK) (f c' : Addr), Room k (A.deeper (LamX.lamEnv X scope s.heap.objs.size f c')) → PE (LamX.lamCx X A outer s H E scope f c') body (t E))
    (hdb : (x == ("__debug__" : Str)) = false := by decide) (hd1 : (e1 == ("__debug__" : Str)) = false := by decide) (hd2 : (e2 == ("__debug__" : Str)) = false := by decide) :
    PE X (.Call (.Name x p) [.Lambda params body scope lpos] [] pos) (LamX.tLam Tt.tb (TTold2 X.K C1 r1 C2 r2) t) := by
  have kp := F.kp
  obtain ⟨oc, od, dV, kV, doc, pm, an, cdv, ct, osl, rfl, lk, hcd, _, _⟩ := F.ex
  exact LamX.pe_lamcall (Ng := ["what"]) hg hm kp lk hcd hb Sg rfl hva (told_gives2 hg1 hg2 hm1 hm2 hd1 hd2 fun _ => rfl) TB hcode hmT hu hr L hdef hbind hbody hdb
end
section
variable {K : PySem.W.Frag} {E : L2.St → XK} {Δ : En} {R : D → Prop} {X : Addr → Prop}
/-- the exception C is told as r -/
def Told2 (K : PySem.W.Frag) (C1 : Addr) (r1 : Str) (C2 : Addr) (r2 : Str) (C : Addr) (r : Str) : Prop := (PySem.W.exmOne K (.ref C) (.ref C1) = some true ∧ r = r1) ∨ (PySem.W.exmOne K (.ref C) (.ref C1) = some false ∧ PySem.W.exmOne K (.ref C) (.ref C2) = some true ∧ r = r2)
theorem ev_told2 {i : Nat} {t : XK → TE} {C1 C2 : Addr} {r1 r2 : Str} {Xb : Addr → Prop} {ret : Addr → Str} (hi : Δ[i]? = some Sl.dice) (h : ∀ EL, Ev K (fun _ => EL) (t EL) Δ R Xb) (hx : ∀ C, Xb C → Told2 K C1 r1 C2 r2 C (ret C)) :
    Ev K E (LamX.tLam Tt.tb (TTold2 K C1 r1 C2 r2) t) Δ (fun d => R d ∨ ∃ C, Xb C ∧ d = .str (ret C)) X := fun q G0 H0 G H σ Q s k kx => by
  obtain ⟨a, rfl, ha⟩ := s.rs.dice i hi
  obtain ⟨n1, dq⟩ := s.rs.gq a rfl
  refine ⟨s.rs.tb, fun H1 e1 T1 => ?_⟩
  have g : Gr (some a) G H G H1 := Gr.tabs s.sub e1 T1
  refine h _ (some a) G0 H0 G H1 σ Q (s.go g) (fun v d G' H' g' rv p => k v d G' H' (s.tr g g') rv (.inl p)) fun C G' H' g' x => ?_
  rcases hx C x with ⟨z1, z2⟩ | ⟨z1, z2, z3⟩
  · exact ⟨true, z1, fun _ => k _ _ G' H' (s.tr g g') (.str _) (.inr ⟨C, x, by rw [z2]⟩), fun z => by cases z⟩
  · exact ⟨false, z1, fun z => (by cases z), fun _ => ⟨true, z2, fun _ => k _ _ G' H' (s.tr g g') (.str _) (.inr ⟨C, x, by rw [z3]⟩), fun z => by cases z⟩⟩
end
end Ts


/-! sorted of alike data (a list; a generator), < of alike data, len(dict(pairs)). -/
namespace Ts
open PySem PySem.Spec PyProof.Rows L2
/-- what sorting asks of data -/
structure CanSort (ds : List PyData) : Prop where
  alike : PySem.W.AllAlike ds
  kind : PySem.W.Sortable ds
  flat : ∀ d ∈ ds, d.depth ≤ 60
abbrev leD (a b : D) : Bool := PySem.W.dataLe false D.py a b
def rLtD (K : PySem.W.Frag) : R2 := fun x y H Q => ∃ d e, Dp K H x d ∧ Dp K H y e ∧ PySem.W.alike d e = true ∧ d ≠ .none ∧ d.depth ≤ 60 ∧ Q (.bl (PySem.W.dataLt d e)) H
def rSortD (K : PySem.W.Frag) : List V → Hp → VK → Prop := fun vs H Q => ∃ (a : Addr) (ps : List (V × D)), vs = [.ref a] ∧ SqL K H a (ps.map (·.1)) ∧ (∀ p ∈ ps, Dp K H p.1 p.2.py) ∧ CanSort (ps.map fun p => p.2.py) ∧
  ∀ l, H l = none → Q (.ref l) (upd H l (.lst ((ps.mergeSort (PySem.W.dataLe false fun p => p.2.py)).map (·.1))))
theorem each_vals {ps : List (V × D)} : ∀ {its : List Value}, Vals (ps.map (·.1)) its → PySem.W.EachIs (fun u (p : V × D) => RelV p.1 u) its ps := by
  induction ps with
  | nil => intro its h; cases h; exact .nil
  | cons p ps ih =>
    intro its h
    cases h with
    | cons a b => exact .cons a (ih b)
theorem vals_each {ps : List (V × D)} : ∀ {its : List Value}, PySem.W.EachIs (fun u (p : V × D) => RelV p.1 u) its ps → Vals (ps.map (·.1)) its := by
  induction ps with
  | nil => intro its h; cases h; exact .nil
  | cons p ps ih =>
    intro its h
    cases h with
    | cons a b => exact .cons a (ih b)
theorem each_and {α β : Type} {R S : α → β → Prop} : ∀ {as : List α} {bs : List β}, PySem.W.EachIs R as bs → (∀ a b, b ∈ bs → R a b → S a b) → PySem.W.EachIs S as bs
  | _, _, .nil, _ => .nil
  | _, _, .cons h t, f => .cons (f _ _ List.mem_cons_self h) (each_and t fun a b m => f a b (List.mem_cons_of_mem _ m))
section
variable {X : Cx}
theorem op_ltD (hu : X.A.units + 64 < cLine) : OpR X (compareOp .Lt) (rLtD X.K) := fun pins s σ H x y v u Q I rx ry ⟨d, e, hd, he, ha, hn, hz, q⟩ => by
  obtain ⟨_, r1⟩ := Dp.reads I d x v hd rx
  obtain ⟨_, r2⟩ := Dp.reads I e y u he ry
  exact PySem.W.rcLt_alike d e X.A s v u _ _ r1 r2 ha hn (by omega) X.prog X.w _ _ ⟨.bl _, H, I, rfl, q⟩
theorem call_sortD (hu : X.A.units + 64 < cLine) : CallR X (.builtin "sorted") (rSortD X.K) := fun pins s σ H vs us Q I r ⟨a, ps, e, hs, hd, hc, q⟩ => by
  subst e
  obtain ⟨u, rfl, ru⟩ := vals1 r
  cases (show u = Value.ref a from ru)
  obtain ⟨its, rv, hl, hz⟩ := I.list hs
  have ev := each_vals rv
  rw [List.length_map] at hz
  refine PySem.W.sorted_data (enc := fun p : V × D => p.2.py) hl.isList ev (each_and ev fun v p m h => Dp.reads I _ _ _ (hd p m) h) hc.alike hc.kind hz (fun p m => ?_) fun out lo eo => ?_
  · have := hc.flat _ (List.mem_map.mpr ⟨p, m, rfl⟩)
    omega
  · obtain ⟨n, hn⟩ := PyProof.Rows.sortedAll_at s.heap its out.toArray
    refine ⟨.ref (s.heap.objs.size + 1), _, I.laid (t' := s.toks) (a := s.heap.objs.size + 1) (o := .lst ((ps.mergeSort (PySem.W.dataLe false fun p => p.2.py)).map (·.1))) (fun b o h => PyProof.Rows.sortedAll_old h) (Nat.le_succ _) ⟨?_, out, n, vals_each eo, hn⟩, rfl, q _ (I.hok.fresh (Nat.le_succ _))⟩
    rw [List.length_map, List.length_mergeSort]
    exact hz
end
end Ts


/-! sorted(g), len(dict(pairs)). -/
namespace Ts
open PySem PySem.Spec PyProof.Rows L2 GenW
def tSortG (K : PySem.W.Frag) (tg : TGen) : TE := fun σ H Q => tg σ H fun out H2 => ∃ ps : List (V × D), out = ps.map (·.1) ∧ (∀ p ∈ ps, Dp K H2 p.1 p.2.py) ∧ CanSort (ps.map fun p => p.2.py) ∧
  ∀ l, H2 l = none → Q (.ref l) (upd H2 l (.lst ((ps.mergeSort (PySem.W.dataLe false fun p => p.2.py)).map (·.1))))
section
variable {X : Cx} {k : Nat}
theorem pe_sortG {e : Expr} {tg : TGen} {p pos : Pos} (h : PGen X k e tg XF) (hr : Room (k + 5) X.A) (hg : Gl X "sorted") (hmg : X.mg "sorted" = none)
    (he : starEach [e] X.env = (false, eval e X.env) :: starEach [] X.env := by rfl) : PE X (.Call (.Name "sorted" p) [e] [] pos) (tSortG X.K tg) := by
  refine ⟨fun pins s σ H Q I hq => ?_⟩
  refine Call_ (ld_blt I hg hmg PyProof.Rows.boot_sorted ?_)
  refine PyProof.Rows.callWith_builtin1 ?_ he rfl
  rw [he]
  show wpAny _ _ (spliced ((false, eval e X.env) :: backTo pos (starEach [] X.env))) _ _ s
  refine Calls.spliced_cons (thn (h.run pins s σ H _ I hq) fun u s1 ⟨H1, sc, ex, I1, hex, hG⟩ => ?_)
  refine Calls.spliced_nil ?_
  refine PyProof.Rows.call_function_entry_kw kind_sorted plain_sorted entry_sorted (args_sorted1 _) ?_
  show wpAny _ X.A.in1 (checkCount "sorted" 1 1 1 >>= _) _ _ s1
  refine wpAny_bind (wpAny_pure ?_)
  refine wpAny_bind (collectG (hr.in1.mono (by omega)) I1.ok.frames hG fun S s2 acc H2 ys z0 rv hz os hb un hok z8 qq => ?_)
  obtain ⟨ps, rfl, hd, hc, q⟩ := qq
  have I2 := Inv.eaten I1 hex os hb un hok
  rw [List.length_map] at hz
  have ev := each_vals rv
  have la : acc.toList.length = ps.length := by have := rv.length; rw [List.length_map] at this; exact this.symm
  refine wpAny_bind (wpAny_newList ?_ (by rw [la]; exact hz))
  have ho : (s2.heap.push (seqObj "list" acc.toList.toArray 0)).get? s2.heap.objs.size = some (seqObj "list" acc.toList.toArray 0) := Heap.get?_push_size _ rfl
  have keep : ∀ b o, s2.heap.get? b = some o → b ≠ s2.heap.objs.size ∧ (s2.heap.push (seqObj "list" acc.toList.toArray 0)).get? b = some o := fun b o e => ⟨Nat.ne_of_lt (Heap.lt_size e), Heap.get?_push_of_some _ e⟩
  have er : PySem.W.EachIs (fun u (p : V × D) => ∃ as, Reads (PySem.W.sortingHeap (s2.heap.push (seqObj "list" acc.toList.toArray 0)) s2.heap.objs.size acc.toList) u p.2.py as) acc.toList ps := each_and ev fun u p m r => by
    obtain ⟨as, rd⟩ := Dp.reads I2 _ _ _ (hd p m) r
    exact ⟨as, PyProof.Rows.Reads.keeps (fun b o e => PySem.W.sortingHeap_old (keep b o e).1 (keep b o e).2) rd⟩
  have hun := I.ok
  refine wpAny_bind (wpAny_holding (wpAny_call_entry_kw slot_list_sort ⟨_, ho, rfl⟩ entry_list_sort ?_ (args_list_sort _)))
  refine wpAny_mono (PySem.W.list_sort_vals (P := fun f s' => f = .done (.ret .none) ∧ s' = { s2 with heap := sortedHeap (s2.heap.push (seqObj "list" acc.toList.toArray 0)) s2.heap.objs.size acc.toList (PySem.W.sortVals (PySem.W.dataKind (PySem.W.sortingHeap (s2.heap.push (seqObj "list" acc.toList.toArray 0)) s2.heap.objs.size acc.toList) (ps.map fun p => p.2.py)) false acc.toList acc.toList).toArray }) (κ := PySem.W.dataKind (PySem.W.sortingHeap (s2.heap.push (seqObj "list" acc.toList.toArray 0)) s2.heap.objs.size acc.toList) (ps.map fun p => p.2.py)) ho
    (PySem.W.SortsAt.data (s := { s2 with heap := PySem.W.sortingHeap (s2.heap.push (seqObj "list" acc.toList.toArray 0)) s2.heap.objs.size acc.toList }) (PySem.W.each_map (R := fun v d => ∃ as, Reads (PySem.W.sortingHeap (s2.heap.push (seqObj "list" acc.toList.toArray 0)) s2.heap.objs.size acc.toList) v d as) (fun p : V × D => p.2.py) er) hc.alike hc.kind fun d m => ?_) (by rw [la]; exact hz) ⟨rfl, rfl⟩) ?_ fun _ _ e => e
  · have h1 := hc.flat d m
    have h2 := hr.un
    show X.A.units + 1 + 1 + d.depth < cLine
    omega
  · rintro f s' ⟨rfl, rfl⟩
    refine ⟨_, rfl, wpAny_pure ⟨_, rfl, ?_⟩⟩
    have eo := PySem.W.sortVals_data (enc := fun p : V × D => p.2.py) false ev er hc.alike
    obtain ⟨n, hn⟩ := sortedHeap_at (out := (PySem.W.sortVals (PySem.W.dataKind (PySem.W.sortingHeap (s2.heap.push (seqObj "list" acc.toList.toArray 0)) s2.heap.objs.size acc.toList) (ps.map fun p => p.2.py)) false acc.toList acc.toList).toArray) ho
    refine ⟨.ref s2.heap.objs.size, _, I2.laid (t' := s2.toks) (a := s2.heap.objs.size) (o := .lst ((ps.mergeSort (PySem.W.dataLe false fun p => p.2.py)).map (·.1))) (fun b o h => ?_) (Nat.le_refl _) ⟨?_, _, n, vals_each eo, hn⟩, rfl, q _ (I2.hok.fresh (Nat.le_refl _))⟩
    · rw [sortedHeap_old (keep b o h).1 (Heap.lt_size (keep b o h).2)]
      exact (keep b o h).2
    · rw [List.length_map, List.length_mergeSort]
      exact hz
end
end Ts


/-! len(dict(pairs)), the keys tuples of ints and texts. -/
namespace Ts
open PySem PySem.Spec PyProof.Rows L2
/-- the items in the order of their first standing, each once -/
def once {α : Type} [DecidableEq α] (acc : List α) : List α → List α
  | [] => acc
  | x :: xs => once (if acc.any (fun y => y = x) then acc else acc ++ [x]) xs
theorem once_len {α : Type} [DecidableEq α] : ∀ (xs acc : List α), (once acc xs).length ≤ acc.length + xs.length
  | [], _ => by simp [once]
  | x :: xs, acc => by
    have h := once_len xs (if acc.any (fun y => y = x) then acc else acc ++ [x])
    have h2 : (if acc.any (fun y => y = x) then acc else acc ++ [x]).length ≤ acc.length + 1 := by
      split
      · omega
      · simp
    show (once (if acc.any (fun y => y = x) then acc else acc ++ [x]) xs).length ≤ acc.length + (xs.length + 1)
    omega
theorem stored_keys {K' : Type} [DecidableEq K'] (acc : List (K' × Value)) (k : K') (v : Value) : (stored acc k v).map (·.1) = if (acc.map (·.1)).any (fun y => y = k) then acc.map (·.1) else acc.map (·.1) ++ [k] := by
  unfold stored
  rw [List.any_map]
  by_cases h : (acc.any fun kv => decide (kv.1 = k)) = true
  · rw [if_pos h, if_pos (by simpa [Function.comp_def] using h), List.map_map]
    refine List.map_congr_left fun p _ => ?_
    show (if p.1 = k then (p.1, v) else p).1 = p.1
    split <;> rfl
  · rw [if_neg h, if_neg (by simpa [Function.comp_def] using h), List.map_append]
    rfl
theorem merged_keys {K' : Type} [DecidableEq K'] : ∀ (more acc : List (K' × Value)), (merged acc more).map (·.1) = once (acc.map (·.1)) (more.map (·.1))
  | [], _ => rfl
  | p :: more, acc => by
    show (merged (stored acc p.1 p.2) more).map (·.1) = _
    rw [merged_keys more, stored_keys]
    rfl
structure PT where
  at_ : Addr
  key : Addr
  ks : List Key
  val : V
def rLenDict (K : PySem.W.Frag) (x : V) (H : Hp) (Q : VK) : Prop := ∃ (a : Addr) (ts : List PT), x = .ref a ∧ SqL K H a (ts.map fun t => V.ref t.at_) ∧ (∀ t ∈ ts, SqT K H t.at_ [.ref t.key, t.val] ∧ SqT K H t.key (t.ks.map kV)) ∧ Q (.int (once [] (ts.map (·.ks))).length) H
def tLenDict (K : PySem.W.Frag) (te : TE) : TE := fun σ H Q => te σ H fun x H1 => rLenDict K x H1 Q
theorem refs_are : ∀ (ts : List PT) {its : List Value}, Vals (ts.map fun t => V.ref t.at_) its → its = ts.map fun t => Value.ref t.at_
  | [], _, h => by cases h; rfl
  | t :: ts, _, h => by
    cases h with
    | cons a b => rw [refs_are ts b, show _ = Value.ref t.at_ from a]; rfl
section
variable {X : Cx}
theorem kps_of {pins : List (Addr × Obj)} {σ : L2.St} {H : Hp} {s : Shared} (I : Inv X pins σ H s) : ∀ ts : List PT, (∀ t ∈ ts, SqT X.K H t.at_ [.ref t.key, t.val] ∧ SqT X.K H t.key (t.ks.map kV)) →
    ∃ kps : List (List Key × Addr × Value), kps.map (·.1) = ts.map (·.ks) ∧ (∀ x ∈ kps, (tupleKind (mixKind X.prog X.w)).is s.heap x.1 x.2.1) ∧ ∀ (j : Nat) (x : List Key × Addr × Value), kps[j]? = some x → ∃ t : PT, ts[j]? = some t ∧ PairAt s.heap t.at_ (.ref x.2.1) x.2.2
  | [], _ => ⟨[], rfl, (fun _ h => nomatch h), fun j x h => by simp at h⟩
  | t :: ts, h => by
    obtain ⟨h1, h2⟩ := h t List.mem_cons_self
    obtain ⟨kps, e1, e2, e3⟩ := kps_of I ts fun u m => h u (List.mem_cons_of_mem _ m)
    obtain ⟨its, rv, tp, _⟩ := I.tuple h1
    obtain ⟨its2, rv2, ⟨o2, g1, g2, n2, g3⟩, _⟩ := I.tuple h2
    obtain ⟨u1, u2, rfl, r1, r2⟩ := vals2 rv
    cases (show u1 = Value.ref t.key from r1)
    refine ⟨(t.ks, t.key, u2) :: kps, by rw [List.map_cons, List.map_cons, e1], fun x m => ?_, fun j x hx => ?_⟩
    · rcases List.mem_cons.mp m with rfl | m
      · exact ⟨o2, its2.toArray, n2, g1, g2, g3, by simpa using items_are rv2⟩
      · exact e2 x m
    · cases j with
      | zero =>
        obtain rfl : (t.ks, t.key, u2) = x := by simpa using hx
        exact ⟨t, rfl, .inl tp⟩
      | succ j => exact e3 j x (by simpa using hx)
theorem pe_lenDict {e : Expr} {te : TE} {p p2 pos pos2 : Pos} (hc : X.calm = true) (hu : X.A.units + 64 < cLine) (h : PE X e te) (hg : Gl X "len") (hm : X.mg "len" = none) (hg2 : Gl X "dict") (hm2 : X.mg "dict" = none)
    (hs : starEach [e] X.env = (false, eval e X.env) :: starEach [] X.env := by rfl) (hpl : (backTo pos2 (starEach [] X.env)).any (·.1) = false := by rfl)
    (na : starEach [Expr.Call (.Name "dict" p2) [e] [] pos2] X.env = (false, eval (.Call (.Name "dict" p2) [e] [] pos2) X.env) :: starEach [] X.env := by rfl) :
    PE X (.Call (.Name "len" p) [.Call (.Name "dict" p2) [e] [] pos2] [] pos) (tLenDict X.K te) := by
  refine ⟨fun pins s σ H Q I q0 => ?_⟩
  refine Call_ (ld_blt I hg hm boot_len ?_)
  refine PyProof.Rows.callWith_builtin1 (PyProof.Rows.args_cons ?_ rfl) rfl rfl
  refine Call_ (ld_blt I hg2 hm2 PyProof.Rows.boot_dict (PyProof.Rows.callWith_type1 (PyProof.Rows.args_cons (thn (h.run pins s σ H _ I q0) fun u s1 ⟨x, H1, I1, rx, q1⟩ => ?_) hs) hs hpl))
  refine PyProof.Rows.args_nil ?_
  obtain ⟨a, ts, rfl, hsq, ht, q⟩ := q1
  cases (show u = Value.ref a from rx)
  obtain ⟨its, rv, ⟨o, n, g1, g2, g3, g4⟩, hz⟩ := I1.list hsq
  obtain ⟨kps, e1, e2, e3⟩ := kps_of I1 ts ht
  have hl : kps.length = ts.length := by simpa using congrArg List.length e1
  have hi : its.length = ts.length := by have := rv.length; rw [List.length_map] at this; exact this.symm
  rw [List.length_map] at hz
  have hits : ∀ {j : Nat} {t : PT}, ts[j]? = some t → its[j]? = some (Value.ref t.at_) := fun {j t} e => by
    rw [refs_are ts rv, List.getElem?_map, e]
    rfl
  refine PySem.dict_keyed (knd := tupleKind (mixKind X.prog X.w)) (kvs := pairsH kps) (n := (kps.map fun x => (Value.ref x.2.1, x.2.2)).length) tupleKind_stays (PairArg.list a its.toArray (fun j => ((ts[j]?).map (·.at_)).getD 0) (kps.map fun x => (Value.ref x.2.1, x.2.2))) (I1.ok.hd hc) (by show X.A.units + 1 + 1 < cLine; omega)
    ⟨⟨o, n, g1, g2, g3, g4⟩, by simp [hi, hl], fun j kk v hj => ?pa⟩ ⟨kps, rfl, ⟨by rw [List.length_map], fun i kk v hi2 => ?pb⟩, e2⟩ (fun h' hk k b => tupleKind_stays.stays fun b o vs n e _ => hk b o (by simp) e) (by rw [List.length_map, hl]; exact hz) fun h' tk hd hk => ?pc
  case pa =>
    rw [List.getElem?_map] at hj
    obtain ⟨x, hx, e⟩ := Option.map_eq_some_iff.mp hj
    cases e
    obtain ⟨t, et, pt⟩ := e3 j x hx
    simp only [et, Option.map_some, Option.getD_some]
    exact ⟨by rw [List.getElem?_toArray]; exact hits et, pt⟩
  case pb =>
    have hi2 : (kps.map fun x => (Value.ref x.2.1, x.2.2))[i]? = some (kk, v) := hi2
    rw [List.getElem?_map] at hi2
    obtain ⟨x, hx, e⟩ := Option.map_eq_some_iff.mp hi2
    cases e
    exact ⟨x.1, x.2.1, hx, rfl⟩
  case pc =>
    refine PyProof.Rows.args_nil ?_
    have I2 : Inv X pins σ H1 { s1 with heap := h', toks := tk } := I1.kept fun b o e => hk b o (by simp) e
    obtain ⟨xs, hx, ex⟩ := hd
    have en : xs.length = (once [] (ts.map (·.ks))).length := by
      have h1 : ((pairsH xs).map (·.1)).length = xs.length := by rw [List.length_map, pairsH_length]
      rw [← h1, ex, merged_keys, ← e1]
      simp [pairsH, Function.comp_def]
    have hb := once_len (ts.map (·.ks)) []
    rw [List.length_map, List.length_nil] at hb
    have hbig : (s1.heap.objs.size == sysModules) = false := by
      exact beq_false_of_ne (Ne.symm (Nat.ne_of_lt (show sysModules < s1.heap.objs.size from I1.big)))
    refine call_len_dictH (s := { s1 with heap := h', toks := tk }) hbig hx ?_ ⟨.int xs.length, H1, I2.tok _, ⟨_, rfl⟩, by rw [en]; exact q⟩
    have hs16 : sizeLine = 16777216 := sizeLine_eq
    rw [en]
    omega
end
end Ts


/-! methods with arguments, isinstance(x, str), < of alike data beside the other kinds; by data. -/
namespace Ts
open PySem PySem.Spec PyProof.Rows L2
def rLtH (K : PySem.W.Frag) : R2 := fun x y H Q => rLtG K x y H Q ∨ rLtD K x y H Q
section
variable [Tt] {X : Cx} {k j : Nat} {x m : Str} {C : Addr} {sp : Sp} {p pos apos : Pos} {o e : Expr} {es : List Expr} {t : TA} {ta : TE}
theorem op_ltH (hu : X.A.units + 64 < cLine) : OpR X (compareOp .Lt) (rLtH X.K) := OpR.or (op_ltG (by omega)) (op_ltD hu)
theorem pe_mthA {pl : Sem Bool} (c : Mth X.prog X.w X.K X.mg X.base k C m sp) (hr : Room j X.A) (hk : k ≤ j) (ho : PE X o ta) (ha : PA X (e :: es) t)
    (hst : starEach (e :: es) X.env = (false, eval e X.env) :: starEach es X.env := by rfl) (hpl : (backTo pos (starEach es X.env)).any (·.1) = false := by rfl)
    (ht : eval (.Call (.Attribute o m apos) (e :: es) [] pos) X.env = (do
      let ov ← eval o X.env
      standAt apos.atName
      let (f, first) ← holding [ov] (getMethod ov m pl)
      callWith pos f first (backTo pos (starEach (e :: es) X.env)) (backToKw pos (keywordEach [] X.env))) := by rfl) : PE X (.Call (.Attribute o m apos) (e :: es) [] pos) (tMeth C m sp [] XF ta t) := by
  obtain ⟨f, fd, ps, cl, M, F, b⟩ := c.ex
  exact pe_meth ho cl M F (hr.mono hk) b .nil passXF ha hst hpl ht
end
section
variable [Tt] {K : PySem.W.Frag} {E : L2.St → XK} {Δ : En} {te tb : TE} {X : Addr → Prop} {R : D → Prop}
theorem od_ltI {i j : Int} : OpD K (rLtH K) (.int i) (.int j) (· = .bl (decide (i < j))) := od_inl od_lt
theorem od_ltA {a b : D} (ha : a.pure = true) (hb : b.pure = true) (h : PySem.W.alike a.py b.py = true) (n : a.py ≠ .none) (z : a.py.depth ≤ 60) : OpD K (rLtH K) a b (· = .bl (PySem.W.dataLt a.py b.py)) := fun G H v w Q e r1 r2 k =>
  .inr ⟨_, _, r1.dp e ha, r2.dp e hb, h, n, z, ret1 e (.bl _) k⟩
theorem RpL.zipped {G H : Hp} (e : Exx G H) : ∀ {vs : List V} {ds : List D}, RpL K G vs ds → (∀ d ∈ ds, d.pure = true) → ∃ ps : List (V × D), ps.map (·.1) = vs ∧ ps.map (·.2) = ds ∧ (∀ p ∈ ps, Dp K H p.1 p.2.py) ∧ ∀ p ∈ ps, Rp K G p.1 p.2
  | _, _, .nil, _ => ⟨[], rfl, rfl, (fun _ h => nomatch h), (fun _ h => nomatch h)⟩
  | _, _, .cons (v := v) (d := d) h r, hp => by
    obtain ⟨ps, e1, e2, e3, e4⟩ := RpL.zipped e r fun d m => hp d (List.mem_cons_of_mem _ m)
    refine ⟨(v, d) :: ps, by rw [List.map_cons, e1], by rw [List.map_cons, e2], fun p m => ?_, fun p m => ?_⟩
    · rcases List.mem_cons.mp m with rfl | m
      · exact h.dp e (hp _ List.mem_cons_self)
      · exact e3 p m
    · rcases List.mem_cons.mp m with rfl | m
      · exact h
      · exact e4 p m
theorem RpL.of_pairs {G : Hp} : ∀ {ps : List (V × D)}, (∀ p ∈ ps, Rp K G p.1 p.2) → RpL K G (ps.map (·.1)) (ps.map (·.2))
  | [], _ => .nil
  | p :: ps, h => .cons (h p List.mem_cons_self) (RpL.of_pairs fun q m => h q (List.mem_cons_of_mem _ m))
theorem sorted_pairs (ps : List (V × D)) : (ps.mergeSort (PySem.W.dataLe false fun p => p.2.py)).map (·.2) = (ps.map (·.2)).mergeSort leD := List.map_mergeSort fun a _ b _ => rfl
theorem RpL.sorted {G : Hp} {ps : List (V × D)} (h : ∀ p ∈ ps, Rp K G p.1 p.2) : RpL K G ((ps.mergeSort (PySem.W.dataLe false fun p => p.2.py)).map (·.1)) ((ps.map (·.2)).mergeSort leD) := by
  rw [← sorted_pairs]
  exact RpL.of_pairs fun p m => h p (List.mem_mergeSort.mp m)
theorem cd_sort {ds : List D} (hp : ∀ d ∈ ds, d.pure = true) (hc : CanSort (ds.map D.py)) : CbD K (rSortD K) [.lst ds] (· = .lst (ds.mergeSort leD)) := fun G H vs Q e r k => by
  cases r with
  | cons ra rr =>
    cases rr
    obtain ⟨a, xs, rfl, ha, rl⟩ := ra.lst_inv
    obtain ⟨ps, rfl, rfl, e3, e4⟩ := rl.zipped e hp
    rw [List.map_map] at hc
    refine ⟨a, ps, rfl, .inl (.inl (e.l ha)), e3, hc, fun l hl => ?_⟩
    have g := Gr.new (o := .lst ((ps.mergeSort (PySem.W.dataLe false fun p => p.2.py)).map (·.1))) e hl
    exact k _ _ _ _ g (.lst upd_same ((RpL.sorted e4).ex g.ex)) rfl
/-- sorted(elt for target in iter if ..) -/
theorem ev_sortGe {wi : TI} {tt : TT} {Rw : List D → Prop} {g : TG} {vs : List Nat} (hw : Ew K E wi Δ Rw X) (I : List D → Nat → List D → Prop) (h0 : ∀ items, Rw items → I items 0 [])
    (hs : ∀ items i d acc, Rw items → items[i]? = some d → I items i acc → ∃ js Δ2, (∀ j ∈ js, j ∈ vs) ∧ Tg K g js (wipeE Δ vs) d Δ2 ∧
      Et K E00 tt Δ2 (fun b => (b = true → Ev K E00 te Δ2 (fun e => acc.length < sizeLine ∧ I items (i + 1) (acc ++ [e])) fun _ => False) ∧ (b = false → I items (i + 1) acc)) fun _ => False)
    (hd : ∀ items acc, Rw items → I items items.length acc → acc.length ≤ sizeLine ∧ (∀ d ∈ acc, d.pure = true) ∧ CanSort (acc.map D.py) ∧ R (.lst (acc.mergeSort leD))) : Ev K E (tSortG K (tGe Tt.tb wi g tt te vs)) Δ R X := fun q G0 H0 G H σ Q s k kx => by
  refine hw q G0 H0 G H σ _ s (fun J items Gw Hw gw wk rw_ => ?_) kx
  refine ⟨(s.go gw).rs.tb, fun H2 e2 t2 => ?_⟩
  have gw2 : Gr q G H Gw H2 := s.tr gw (Gr.tabs gw.sub e2 t2)
  refine ⟨fun i m ys H' => m = items.length - i ∧ i ≤ items.length ∧ ∃ G' acc, Gr q G H G' H' ∧ Exx Gw G' ∧ RpL K G' ys acc ∧ I items i acc, ⟨items.length, rfl, Nat.zero_le _, Gw, [], gw2, Exx.refl _, .nil, h0 items rw_⟩, ?_⟩
  rintro i m ys H1 ⟨rfl, hi, G1, acc, g1, e1, r1, i1⟩
  obtain ⟨wg, wst⟩ := wk G1 H1 e1 g1.sub
  by_cases hlt : i < items.length
  · obtain ⟨go, yl⟩ := wg i hlt
    refine .inr ⟨go, fun ys' H' => ∃ G' acc, Gr q G H G' H' ∧ Exx Gw G' ∧ RpL K G' ys' acc ∧ I items (i + 1) acc, fun ys' H' h => ⟨items.length - (i + 1), by omega, rfl, hlt, h⟩, fun x H2 y => ?_⟩
    obtain ⟨G2, d, g2, hd', rx⟩ := yl x H2 y
    have s1 := s.go g1
    have s2 := sta_wipe (s1.go g2.any) vs
    obtain ⟨js, Δ2, hjs, ht, hb⟩ := hs items i d acc rw_ hd' i1
    refine ht q G0 H0 G2 H2 (wipe σ vs) x _ s2 rx fun σ3 s3 w3 => ⟨(w3 vs hjs).trans (wipe_wipe fun v hv => hv), ?_⟩
    refine hb q G0 H0 G2 H2 σ3 _ s3 (fun b G3 H3 g3 p3 => ?_) fun _ _ _ _ z => z.elim
    have g13 : Gr q G1 H1 G3 H3 := s1.tr g2.any g3
    cases b with
    | false => exact iteF ⟨G3, acc, s.tr g1 g13, e1.trans g13.ex, r1.ex g13.ex, p3.2 rfl⟩
    | true =>
      refine iteT ((p3.1 rfl) q G0 H0 G3 H3 σ3 _ (s3.go g3) (fun u e G4 H4 g4 r4 p4 => ?_) fun _ _ _ _ z => z.elim)
      have g14 : Gr q G1 H1 G4 H4 := s1.tr g13 g4
      exact ⟨by rw [r1.length]; exact p4.1, G4, acc ++ [e], s.tr g1 g14, e1.trans g14.ex, (r1.ex g14.ex).append (.cons r4 .nil), p4.2⟩
  · have e : i = items.length := by omega
    subst e
    obtain ⟨hl, hp, hc, hR⟩ := hd items acc rw_ i1
    obtain ⟨ps, rfl, rfl, e3, e4⟩ := r1.zipped g1.sub hp
    rw [List.map_map] at hc
    refine .inl ⟨wst, by rw [r1.length]; exact hl, ps, rfl, e3, hc, fun l hl' => ?_⟩
    have g := Gr.new (o := .lst ((ps.mergeSort (PySem.W.dataLe false fun p => p.2.py)).map (·.1))) g1.sub hl'
    exact k _ _ _ _ (s.tr g1 g.any) (.lst upd_same ((RpL.sorted e4).ex g.ex)) hR
/-- len(dict([(key, ..) ..])) -/
def keyD : Key → D
  | .inl i => .int i
  | .inr x => .str x
theorem RpL.keys_inv {G : Hp} : ∀ {ks : List Key} {vs : List V}, RpL K G vs (ks.map keyD) → vs = ks.map kV
  | [], _, h => by cases h; rfl
  | .inl i :: ks, _, h => by
    cases h with
    | cons a b => rw [RpL.keys_inv b, Rp.int_inv a]; rfl
  | .inr z :: ks, _, h => by
    cases h with
    | cons a b => rw [RpL.keys_inv b, Rp.str_inv a]; rfl
theorem ev_lenDict {kds : List (List Key × D)} (h : Ev K E te Δ (· = .lst (kds.map fun p => .tup [.tup (p.1.map keyD), p.2])) X) : Ev K E (tLenDict K te) Δ (· = .int ((once [] (kds.map (·.1))).length : Nat)) X := fun q G0 H0 G H σ Q s k kx =>
  h q G0 H0 G H σ _ s (fun v d G1 H1 g1 r1 p1 => by
    subst p1
    obtain ⟨a, xs, rfl, ha, rl⟩ := r1.lst_inv
    have main : ∀ (kds : List (List Key × D)) {xs : List V}, RpL K G1 xs (kds.map fun p => .tup [.tup (p.1.map keyD), p.2]) → ∃ ts : List PT, xs = ts.map (fun t => V.ref t.at_) ∧ ts.map (·.ks) = kds.map (·.1) ∧ ∀ t ∈ ts, SqT K H1 t.at_ [.ref t.key, t.val] ∧ SqT K H1 t.key (t.ks.map kV) := by
      intro kds
      induction kds with
      | nil => intro xs r; cases r; exact ⟨[], rfl, rfl, fun _ h => nomatch h⟩
      | cons p kds ih =>
        intro xs r
        cases r with
        | cons a b =>
          obtain ⟨ts, e1, e2, e3⟩ := ih b
          obtain ⟨t, ys, rfl, ht, ry⟩ := a.tup_inv
          cases ry with
          | cons r1 ry =>
            cases ry with
            | @cons v2 _ _ _ r2 ry =>
              cases ry
              obtain ⟨b2, zs, rfl, hb, rz⟩ := r1.tup_inv
              have ez := RpL.keys_inv rz
              subst ez
              refine ⟨⟨t, b2, p.1, v2⟩ :: ts, by rw [e1]; rfl, by rw [List.map_cons, e2]; rfl, fun u m => ?_⟩
              rcases List.mem_cons.mp m with rfl | m
              · exact ⟨st_ex g1.sub ht, st_ex g1.sub hb⟩
              · exact e3 u m
    obtain ⟨ts, rfl, e2, e3⟩ := main kds rl
    exact ⟨a, ts, rfl, .inl (.inl (g1.sub.l ha)), e3, by rw [e2]; exact k _ _ G1 H1 g1 (.int _) rfl⟩) kx
/-- isinstance(x, str) -/
theorem ev_isStr {d : D} {b : Bool} (h : Ev K E te Δ (· = d) X) (hd : (∃ i, d = .int i ∧ b = false) ∨ ∃ z, d = .str z ∧ b = true) : Ev K E (tCB (rIsi K) (tCons te (tCons (tC (.ty "str")) tNil))) Δ (· = .bl b) X := fun q G0 H0 G H σ Q s k kx =>
  h q G0 H0 G H σ _ s (fun v d' G1 H1 g1 r1 p1 => by
    subst p1
    rcases hd with ⟨i, rfl, rfl⟩ | ⟨z, rfl, rfl⟩
    · rw [r1.int_inv]
      exact ⟨_, _, _, _, _, rfl, .ty _, .base (.int i), rfl, k _ _ G1 H1 g1 (.bl _) rfl⟩
    · rw [r1.str_inv]
      exact ⟨_, _, _, _, _, rfl, .ty _, .base (.str z), rfl, k _ _ G1 H1 g1 (.bl _) rfl⟩) kx
end
end Ts


/-! Comprehensions with a test whose answers are known. -/
namespace Ts
variable [Tt]
open PySem PySem.Spec PyProof.Rows L2
section
variable {K : PySem.W.Frag} {E : L2.St → XK} {Δ : En} {te : TE} {tt : TT} {X : Addr → Prop} {wi : TI} {g : TG} {vs : List Nat} {α : Type}
theorem filt_snoc {xs : List α} {i : Nat} {a : α} (p : α → Bool) (f : α → D) (h : xs[i]? = some a) : ((xs.take (i + 1)).filter p).map f = ((xs.take i).filter p).map f ++ if p a = true then [f a] else [] := by
  rw [List.take_add_one, h, List.filter_append, List.map_append]
  congr 1
  by_cases q : p a = true
  · simp [q]
  · simp [q]
theorem filt_len {xs : List α} (p : α → Bool) (f : α → D) (i : Nat) : (((xs.take i).filter p).map f).length ≤ xs.length := by
  rw [List.length_map]
  exact Nat.le_trans (List.length_filter_le _ _) (by rw [List.length_take]; omega)
/-- [e for target in iter if test] -/
theorem ev_filt {xs : List α} (src f : α → D) (p : α → Bool) (hw : Ew K E wi Δ (· = xs.map src) X) (hl : xs.length < 1000000)
    (hs : ∀ (i : Nat) (a : α), xs[i]? = some a → ∃ js Δ2, (∀ j ∈ js, j ∈ vs) ∧ Tg K g js (wipeE Δ vs) (src a) Δ2 ∧ Et K E00 tt Δ2 (· = p a) (fun _ => False) ∧ (p a = true → Ev K E00 te Δ2 (· = f a) fun _ => False)) :
    Ev K E (tLc wi g tt te vs) Δ (· = .lst ((xs.filter p).map f)) X := by
  refine ev_lc hw (fun its i acc => acc = ((xs.take i).filter p).map f) (fun its _ => rfl) (fun its i d acc e hi ea => ?_) fun its acc e ea => ?_
  · subst e
    rw [List.getElem?_map] at hi
    obtain ⟨a, ha, rfl⟩ := Option.map_eq_some_iff.mp hi
    obtain ⟨js, Δ2, h1, h2, h3, h4⟩ := hs i a ha
    refine ⟨js, Δ2, h1, h2, h3.imp fun b eb => ⟨fun hb => ?_, fun hb => ?_⟩⟩
    · have hp : p a = true := by rw [← eb, hb]
      refine (h4 hp).imp fun z ez => ⟨?_, ?_⟩
      · rw [ea]
        exact szlt (Nat.lt_of_le_of_lt (filt_len p f i) hl)
      · rw [filt_snoc p f ha, if_pos hp, ea, ez]
    · have hp : ¬ p a = true := by rw [← eb, hb]; exact Bool.false_ne_true
      rw [filt_snoc p f ha, if_neg hp, ea, List.append_nil]
  · subst e
    rw [ea, List.length_map, List.take_length]
/-- .. by places -/
theorem ev_filtI {items : List D} (f : Nat → D) (p : Nat → Bool) (hw : Ew K E wi Δ (· = items) X) (hl : items.length < 1000000)
    (hs : ∀ (i : Nat) (d : D), items[i]? = some d → ∃ js Δ2, (∀ j ∈ js, j ∈ vs) ∧ Tg K g js (wipeE Δ vs) d Δ2 ∧ Et K E00 tt Δ2 (· = p i) (fun _ => False) ∧ (p i = true → Ev K E00 te Δ2 (· = f i) fun _ => False)) :
    Ev K E (tLc wi g tt te vs) Δ (· = .lst (((List.range items.length).filter p).map f)) X := by
  have hr : ∀ i, i ≤ items.length → (List.range items.length).take i = List.range i := fun i hi => by
    rw [List.take_range, Nat.min_eq_left hi]
  refine ev_lc hw (fun its i acc => acc = (((List.range items.length).take i).filter p).map f) (fun its _ => rfl) (fun its i d acc e hi ea => ?_) fun its acc e ea => ?_
  · rw [e] at hi
    have hlt := (List.getElem?_eq_some_iff.mp hi).1
    have ha : (List.range items.length)[i]? = some i := by rw [List.getElem?_range hlt]
    obtain ⟨js, Δ2, h1, h2, h3, h4⟩ := hs i d hi
    refine ⟨js, Δ2, h1, h2, h3.imp fun b eb => ⟨fun hb => ?_, fun hb => ?_⟩⟩
    · have hp : p i = true := by rw [← eb, hb]
      refine (h4 hp).imp fun z ez => ⟨?_, ?_⟩
      · rw [ea]
        have := filt_len (xs := List.range items.length) p f i
        rw [List.length_range] at this
        exact szlt (Nat.lt_of_le_of_lt this hl)
      · rw [filt_snoc p f ha, if_pos hp, ea, ez]
    · have hp : ¬ p i = true := by rw [← eb, hb]; exact Bool.false_ne_true
      rw [filt_snoc p f ha, if_neg hp, ea, List.append_nil]
  · rw [e, hr _ (Nat.le_refl _)] at ea
    rw [ea]
/-- sorted(e for target in iter if test) -/
theorem ev_sortF {xs : List α} (src f : α → D) (p : α → Bool) (hw : Ew K E wi Δ (· = xs.map src) X) (hl : xs.length < 1000000)
    (hs : ∀ (i : Nat) (a : α), xs[i]? = some a → ∃ js Δ2, (∀ j ∈ js, j ∈ vs) ∧ Tg K g js (wipeE Δ vs) (src a) Δ2 ∧ Et K E00 tt Δ2 (· = p a) (fun _ => False) ∧ (p a = true → Ev K E00 te Δ2 (· = f a) fun _ => False))
    (hp : ∀ a, (f a).pure = true) (hc : CanSort (((xs.filter p).map f).map D.py)) :
    Ev K E (tSortG K (tGe Tt.tb wi g tt te vs)) Δ (· = .lst (((xs.filter p).map f).mergeSort leD)) X := by
  refine ev_sortGe hw (fun its i acc => acc = ((xs.take i).filter p).map f) (fun its _ => rfl) (fun its i d acc e hi ea => ?_) fun its acc e ea => ?_
  · subst e
    rw [List.getElem?_map] at hi
    obtain ⟨a, ha, rfl⟩ := Option.map_eq_some_iff.mp hi
    obtain ⟨js, Δ2, h1, h2, h3, h4⟩ := hs i a ha
    refine ⟨js, Δ2, h1, h2, h3.imp fun b eb => ⟨fun hb => ?_, fun hb => ?_⟩⟩
    · have hp : p a = true := by rw [← eb, hb]
      refine (h4 hp).imp fun z ez => ⟨?_, ?_⟩
      · rw [ea]
        exact szlt (Nat.lt_of_le_of_lt (filt_len p f i) hl)
      · rw [filt_snoc p f ha, if_pos hp, ea, ez]
    · have hp : ¬ p a = true := by rw [← eb, hb]; exact Bool.false_ne_true
      rw [filt_snoc p f ha, if_neg hp, ea, List.append_nil]
  · subst e
    rw [List.length_map, List.take_length] at ea
    subst ea
    refine ⟨?_, fun d hd => ?_, hc, rfl⟩
    · rw [List.length_map]
      exact szl (Nat.le_trans (List.length_filter_le _ _) (by omega))
    · obtain ⟨a, _, rfl⟩ := List.mem_map.mp hd
      exact hp a
end
end Ts


/-! k28: columns of a kind, told by whole numbers; what is counted of them. -/
namespace K28
open PySem L2 Ts
/-- the texts, in their order -/
def tx : Int → Str
  | 0 => ""
  | 1 => "a"
  | 2 => "b"
  | 3 => "ba"
  | 4 => "bb"
  | 5 => "c"
  | _ => "z"
def vD (k : Bool) (n : Int) : D := if k = true then .str (tx n) else .int n
def rk (k : Bool) (n : Int) : D := .tup [.int (if k = true then 2 else 1), vD k n]
def oD (k : Bool) : Option Int → D
  | none => .non
  | some n => vD k n
def okV (k : Bool) (n : Int) : Prop := k = true → 0 ≤ n ∧ n ≤ 6
theorem tx_lt : ∀ a b : Fin 7, decide ((tx a.val).cps.toList < (tx b.val).cps.toList) = decide (a.val < b.val) := by decide +kernel
theorem tx_eq : ∀ a b : Fin 7, decide (tx a.val = tx b.val) = decide (a.val = b.val) := by decide +kernel
theorem tx_okS : ∀ a : Fin 7, PyData.strOk (tx a.val) = true := by decide +kernel
theorem fin_of {n : Int} (h : 0 ≤ n ∧ n ≤ 6) : ∃ a : Fin 7, n = (a.val : Int) := ⟨⟨n.toNat, by omega⟩, by show n = ((n.toNat : Nat) : Int); omega⟩
theorem txlt {a b : Int} (ha : 0 ≤ a ∧ a ≤ 6) (hb : 0 ≤ b ∧ b ≤ 6) : decide ((tx a).cps.toList < (tx b).cps.toList) = decide (a < b) := by
  obtain ⟨x, rfl⟩ := fin_of ha
  obtain ⟨y, rfl⟩ := fin_of hb
  rw [tx_lt, decide_eq_decide]
  omega
theorem txeq {a b : Int} (ha : 0 ≤ a ∧ a ≤ 6) (hb : 0 ≤ b ∧ b ≤ 6) : decide (tx a = tx b) = decide (a = b) := by
  obtain ⟨x, rfl⟩ := fin_of ha
  obtain ⟨y, rfl⟩ := fin_of hb
  rw [tx_eq, decide_eq_decide]
  omega
theorem vD_eqv {k : Bool} {a b : Int} (ha : okV k a) (hb : okV k b) : PyData.eqv (vD k a).py (vD k b).py = decide (a = b) := by
  cases k with
  | false =>
    show (PyData.int a).eqv (.int b) = _
    simp only [PyData.eqv]
    rw [Bool.eq_iff_iff]; simp
  | true =>
    show (PyData.str (tx a)).eqv (.str (tx b)) = _
    rw [← txeq (ha rfl) (hb rfl)]
    simp only [PyData.eqv]
    rw [Bool.eq_iff_iff]; simp
theorem vD_alike (k : Bool) (a b : Int) : PySem.W.alike (vD k a).py (vD k b).py = true := by
  cases k <;> rfl
theorem rk_alike (k : Bool) (a b : Int) : PySem.W.alike (rk k a).py (rk k b).py = true := by
  show PySem.W.alike (.tuple [.int _, (vD k a).py]) (.tuple [.int _, (vD k b).py]) = true
  simp [PySem.W.alike, PySem.W.alikeAll, vD_alike]
theorem rk_eqv {k : Bool} {a b : Int} (ha : okV k a) (hb : okV k b) : PyData.eqv (rk k a).py (rk k b).py = decide (a = b) := by
  show (PyData.tuple [.int _, (vD k a).py]).eqv (.tuple [.int _, (vD k b).py]) = _
  rw [← vD_eqv ha hb]
  simp [PyData.eqv, PyData.eqvAll]
theorem rk_lt {k : Bool} {a b : Int} (ha : okV k a) (hb : okV k b) : PySem.W.dataLt (rk k a).py (rk k b).py = decide (a < b) := by
  show PySem.W.dataLt (.tuple [.int (if k = true then 2 else 1), (vD k a).py]) (.tuple [.int (if k = true then 2 else 1), (vD k b).py]) = _
  rw [PySem.W.dataLt_pair (by simp [PySem.W.alike]) (vD_alike k a b), if_pos (by simp [PyData.eqv]), vD_eqv ha hb]
  have hv : PySem.W.dataLt (vD k a).py (vD k b).py = decide (a < b) := by
    cases k with
    | false => exact PySem.W.dataLt_int a b
    | true =>
      rw [← txlt (ha rfl) (hb rfl)]
      exact PySem.W.dataLt_str (tx a) (tx b)
  rw [hv]
  by_cases h : a = b
  · rw [if_pos (decide_eq_true h), decide_eq_false (by omega)]
  · rw [if_neg (by simp [h])]
theorem rk_le {k : Bool} {a b : Int} (ha : okV k a) (hb : okV k b) : leD (rk k a) (rk k b) = decide (a ≤ b) := by
  show (!PySem.W.dataLt (rk k b).py (rk k a).py) = _
  rw [rk_lt hb ha]
  by_cases h : b < a
  · rw [decide_eq_true h, decide_eq_false (by omega)]; rfl
  · rw [decide_eq_false h, decide_eq_true (by omega)]; rfl
theorem vD_ok {k : Bool} {a : Int} (ha : okV k a) : okN 0 (vD k a) = true := by
  cases k with
  | false => rfl
  | true =>
    obtain ⟨x, rfl⟩ := fin_of (ha rfl)
    exact tx_okS x
theorem oD_ok {k : Bool} {o : Option Int} (h : ∀ a, o = some a → okV k a) : okN 0 (oD k o) = true := by
  cases o with
  | none => rfl
  | some a => exact vD_ok (h a rfl)
theorem okN_up {n : Nat} {d : D} (h : okN 0 d = true) : okN n d = true := by
  cases d <;> first | (cases n <;> exact h) | (simp [okN] at h)
theorem rk_ok {k : Bool} {a : Int} (ha : okV k a) : okN 1 (rk k a) = true := by
  show ([D.int _, vD k a].all (okN 0)) = true
  simp [vD_ok ha, okN]
theorem rk_pure (k : Bool) (a : Int) : (rk k a).pure = true := by cases k <;> rfl
theorem rk_depth (k : Bool) (a : Int) : (rk k a).py.depth ≤ 60 := by
  cases k <;> simp [rk, vD, D.py, D.pys, PyData.depth, PyData.depthAll]
theorem rk_can (k : Bool) (ns : List Int) : CanSort ((ns.map (rk k)).map D.py) := by
  refine ⟨?_, ?_, fun d hd => ?_⟩
  · rw [List.map_map]
    exact PySem.W.AllAlike.of fun a b => rk_alike k a b
  · rw [List.map_map]
    exact PySem.W.Sortable.tuples fun a => ⟨_, _, rfl⟩
  · rw [List.map_map] at hd
    obtain ⟨a, _, rfl⟩ := List.mem_map.mp hd
    exact rk_depth k a
/-! sorted -/
def srt (ns : List Int) : List Int := ns.mergeSort fun a b => decide (a ≤ b)
theorem srt_perm (ns : List Int) : (srt ns).Perm ns := List.mergeSort_perm ns _
theorem srt_len (ns : List Int) : (srt ns).length = ns.length := (srt_perm ns).length_eq
theorem srt_sorted (ns : List Int) : (srt ns).Pairwise (· ≤ ·) := by
  have h := List.pairwise_mergeSort (le := fun a b : Int => decide (a ≤ b)) (fun a b c h1 h2 => by
    have a1 := of_decide_eq_true h1
    have a2 := of_decide_eq_true h2
    exact decide_eq_true (by omega)) (fun a b => by
    by_cases h : a ≤ b
    · simp [h]
    · have : b ≤ a := by omega
      simp [this]) ns
  exact h.imp fun h => of_decide_eq_true h
theorem srt_rk {k : Bool} {ns : List Int} (h : ∀ a ∈ ns, okV k a) : (ns.map (rk k)).mergeSort leD = (srt ns).map (rk k) :=
  (List.map_mergeSort fun a ha b hb => (rk_le (h a ha) (h b hb)).symm).symm
/-! how many are different -/
theorem once_snoc {α : Type} [DecidableEq α] : ∀ (xs acc : List α) (x : α), once acc (xs ++ [x]) = if (once acc xs).any (fun y => y = x) then once acc xs else once acc xs ++ [x]
  | [], acc, x => rfl
  | y :: xs, acc, x => once_snoc xs _ x
theorem mem_once {α : Type} [DecidableEq α] : ∀ (xs acc : List α) (y : α), y ∈ once acc xs ↔ y ∈ acc ∨ y ∈ xs
  | [], acc, y => by simp [once]
  | x :: xs, acc, y => by
    show y ∈ once (if acc.any (fun y => y = x) then acc else acc ++ [x]) xs ↔ _
    rw [mem_once xs]
    by_cases h : acc.any (fun y => y = x) = true
    · rw [if_pos h]
      have hx : x ∈ acc := by
        obtain ⟨z, hz, e⟩ := List.any_eq_true.mp h
        rw [← of_decide_eq_true e]; exact hz
      constructor
      · rintro (h | h)
        · exact .inl h
        · exact .inr (List.mem_cons_of_mem _ h)
      · rintro (h | h)
        · exact .inl h
        · rcases List.mem_cons.mp h with rfl | h
          · exact .inl hx
          · exact .inr h
    · rw [if_neg h]
      simp only [List.mem_append, List.mem_cons, List.not_mem_nil, or_false, List.mem_singleton]
      constructor
      · rintro ((h | h) | h)
        · exact .inl h
        · exact .inr (.inl h)
        · exact .inr (.inr h)
      · rintro (h | h | h)
        · exact .inl (.inl h)
        · exact .inl (.inr h)
        · exact .inr h
/-- a place where a new value begins -/
def fresh (ns : List Int) (p : Nat) : Bool := decide (p = 0) || !decide (ns.getD (p - 1) 0 = ns.getD p 0)
def firsts (ns : List Int) (i : Nat) : List Nat := (List.range i).filter (fresh ns)
theorem firsts_snoc (ns : List Int) (i : Nat) : firsts ns (i + 1) = firsts ns i ++ if fresh ns i = true then [i] else [] := by
  unfold firsts
  rw [List.range_succ, List.filter_append]
  congr 1
  by_cases h : fresh ns i = true
  · simp [h]
  · simp [h]
theorem sorted_get {ns : List Int} (h : ns.Pairwise (· ≤ ·)) {i j : Nat} (hij : i ≤ j) (hj : j < ns.length) : ns.getD i 0 ≤ ns.getD j 0 := by
  rw [List.getD_eq_getElem?_getD, List.getD_eq_getElem?_getD, List.getElem?_eq_getElem hj, List.getElem?_eq_getElem (by omega)]
  rcases Nat.lt_or_eq_of_le hij with h1 | rfl
  · exact List.pairwise_iff_getElem.mp h i j (by omega) hj h1
  · exact Int.le_refl _
theorem firsts_once {α : Type} [DecidableEq α] (f : Int → α) {ns : List Int} (h : ns.Pairwise (· ≤ ·)) (inj : ∀ a ∈ ns, ∀ b ∈ ns, f a = f b → a = b) : ∀ i, i ≤ ns.length → (once [] ((ns.take i).map f)).length = (firsts ns i).length
  | 0, _ => rfl
  | i + 1, hi => by
    have ih := firsts_once f h inj i (by omega)
    have hg : ns[i]? = some (ns.getD i 0) := by rw [List.getD_eq_getElem?_getD, List.getElem?_eq_getElem (by omega)]; rfl
    have et : ns.take (i + 1) = ns.take i ++ [ns.getD i 0] := by
      rw [List.take_add_one, hg]; rfl
    rw [et, List.map_append, List.map_cons, List.map_nil, once_snoc, firsts_snoc, List.length_append, ← ih]
    have mi : ns.getD i 0 ∈ ns := List.mem_of_getElem? hg
    by_cases hf : fresh ns i = true
    · have hn : ¬ (once [] ((ns.take i).map f)).any (fun y => y = f (ns.getD i 0)) = true := fun hx => by
        obtain ⟨z, hz, e⟩ := List.any_eq_true.mp hx
        have e := of_decide_eq_true e
        rcases (mem_once _ _ _).mp hz with q | q
        · cases q
        · obtain ⟨b, hb, rfl⟩ := List.mem_map.mp q
          have eb := inj b (List.mem_of_mem_take hb) _ mi e
          obtain ⟨j, hj, ej⟩ := List.mem_iff_getElem.mp hb
          rw [List.length_take] at hj
          have hj' : j < i := by omega
          rw [List.getElem_take] at ej
          have g1 : ns.getD j 0 = b := by rw [List.getD_eq_getElem?_getD, List.getElem?_eq_getElem (by omega)]; exact ej
          have s1 := sorted_get h (show j ≤ i - 1 by omega) (by omega)
          have s2 := sorted_get h (show i - 1 ≤ i by omega) (by omega)
          unfold fresh at hf
          have : ns.getD (i - 1) 0 = ns.getD i 0 := by omega
          rw [this] at hf
          simp at hf
          omega
      rw [if_neg hn, if_pos hf, List.length_append]
      rfl
    · have hf' : fresh ns i = false := by simpa using hf
      have hn : (once [] ((ns.take i).map f)).any (fun y => y = f (ns.getD i 0)) = true := by
        unfold fresh at hf'
        simp only [Bool.or_eq_false_iff, decide_eq_false_iff_not, Bool.not_eq_false', decide_eq_true_eq] at hf'
        refine List.any_eq_true.mpr ⟨f (ns.getD i 0), (mem_once _ _ _).mpr (.inr (List.mem_map.mpr ⟨ns.getD i 0, ?_, rfl⟩)), decide_eq_true rfl⟩
        rw [← hf'.2]
        refine List.mem_iff_getElem.mpr ⟨i - 1, by rw [List.length_take]; omega, ?_⟩
        rw [List.getElem_take, List.getD_eq_getElem?_getD, List.getElem?_eq_getElem (by omega)]
        rfl
      rw [if_pos hn, if_neg (by simp [hf'])]
      rfl
def dcnt (ns : List Int) : Nat := (firsts ns ns.length).length
theorem dcnt_once {α : Type} [DecidableEq α] (f : Int → α) {ns : List Int} (h : ns.Pairwise (· ≤ ·)) (inj : ∀ a ∈ ns, ∀ b ∈ ns, f a = f b → a = b) : (once [] (ns.map f)).length = dcnt ns := by
  have e := firsts_once f h inj ns.length (Nat.le_refl _)
  rw [List.take_length] at e
  exact e
theorem dcnt_le (ns : List Int) : dcnt ns ≤ ns.length := by
  have h := List.length_filter_le (fresh ns) (List.range ns.length)
  rw [List.length_range] at h
  exact h
theorem dcnt_pos {ns : List Int} (h : ns ≠ []) : 0 < dcnt ns := by
  have hl : 0 < ns.length := List.length_pos_iff.mpr h
  exact List.length_pos_of_mem (List.mem_filter.mpr ⟨List.mem_range.mpr hl, by simp [fresh]⟩)
theorem firsts_all {ns : List Int} (h : ns.Nodup) : ∀ i, i ≤ ns.length → (firsts ns i).length = i
  | 0, _ => rfl
  | i + 1, hi => by
    rw [firsts_snoc, List.length_append, firsts_all h i (by omega)]
    have : fresh ns i = true := by
      unfold fresh
      by_cases h0 : i = 0
      · simp [h0]
      · have : ns.getD (i - 1) 0 ≠ ns.getD i 0 := fun e => by
          rw [List.getD_eq_getElem?_getD, List.getD_eq_getElem?_getD, List.getElem?_eq_getElem (show i < ns.length by omega), List.getElem?_eq_getElem (show i - 1 < ns.length by omega)] at e
          have := (List.getElem_inj h).mp (show ns[i - 1] = ns[i] from e)
          omega
        rw [decide_eq_false this]
        simp
    rw [if_pos this]
    rfl
theorem dcnt_nodup {ns : List Int} (h : ns.Nodup) : dcnt ns = ns.length := firsts_all h _ (Nat.le_refl _)
/-! a summary -/
structure Sm where
  rows : Nat
  nulls : Nat
  diff : Nat
  k : Bool
  bs : List Int
def eqR (s : Sm) : Int := if s.diff = 0 then 0 else ((s.rows : Int) - s.nulls + s.diff - 1) / s.diff
def passed (bs : List Int) (n : Int) : Nat := (bs.filter fun b => decide (b < n)).length
def below (s : Sm) (n : Int) : Int := if s.bs = [] then 0 else ((s.rows : Int) - s.nulls) * (passed s.bs n : Nat) / (s.bs.length : Nat)
theorem passed_le (bs : List Int) (n : Int) : passed bs n ≤ bs.length := List.length_filter_le _ _
theorem passed_mono {bs : List Int} {a b : Int} (h : a ≤ b) : passed bs a ≤ passed bs b := by
  unfold passed
  induction bs with
  | nil => simp
  | cons x bs ih =>
    simp only [List.filter_cons]
    by_cases h1 : x < a
    · have h2 : x < b := by omega
      simp only [h1, h2, decide_true, if_true, List.length_cons]
      omega
    · simp only [h1, decide_false, Bool.false_eq_true, if_false]
      split
      · simp only [List.length_cons]; omega
      · exact ih
theorem below_mono {s : Sm} (hn : s.nulls ≤ s.rows) {a b : Int} (h : a ≤ b) : below s a ≤ below s b := by
  unfold below
  split
  · exact Int.le_refl _
  · rename_i h0
    have hl : 0 < s.bs.length := List.length_pos_iff.mpr h0
    refine Int.ediv_le_ediv (by omega) (Int.mul_le_mul_of_nonneg_left ?_ (by omega))
    have := passed_mono (bs := s.bs) h
    omega
theorem below_nn {s : Sm} (hn : s.nulls ≤ s.rows) (a : Int) : 0 ≤ below s a := by
  unfold below
  split
  · exact Int.le_refl _
  · exact Int.ediv_nonneg (Int.mul_nonneg (by omega) (by omega)) (by omega)
theorem below_le {s : Sm} (hn : s.nulls ≤ s.rows) (a : Int) : below s a ≤ (s.rows : Int) - s.nulls := by
  unfold below
  split
  · omega
  · rename_i h0
    have hl : 0 < s.bs.length := List.length_pos_iff.mpr h0
    have hp := passed_le s.bs a
    refine Int.ediv_le_of_le_mul (by omega) ?_
    exact Int.mul_le_mul_of_nonneg_left (by omega) (by omega)
def mx (a b : Int) : Int := if b > a then b else a
def mn (a b : Int) : Int := if b < a then b else a
def hiR (s : Sm) : Option Int → Int
  | none => (s.rows : Int) - s.nulls
  | some h => below s h
def loR (s : Sm) : Option Int → Int
  | none => 0
  | some l => below s l
def rngR (s : Sm) (lo hi : Option Int) : Int := mx 0 (hiR s hi - loR s lo)
theorem eqR_nn {s : Sm} (hn : s.nulls ≤ s.rows) : 0 ≤ eqR s := by
  unfold eqR
  split
  · exact Int.le_refl _
  · exact Int.ediv_nonneg (by omega) (by omega)
/-- what is expected of one side -/
def left (s : Sm) (sg : Str) (n : Int) : Int :=
  if sg = "=" then eqR s
  else if sg = "<" ∨ sg = "<=" then below s n + (if sg = "<=" then eqR s else 0)
  else rngR s (some n) none - (if sg = ">" then eqR s else 0)
def side (s : Sm) (m : Int) (sg : Str) (v : Option Int) : Int := match v with
  | none => 0
  | some n => if 0 < s.rows then m * mx 0 (mn (left s sg n) s.rows) / (s.rows : Nat) else 0
theorem side_le {s : Sm} {m : Int} (hm : 0 ≤ m) (sg : Str) (v : Option Int) : 0 ≤ side s m sg v ∧ side s m sg v ≤ m := by
  cases v with
  | none => exact ⟨Int.le_refl _, hm⟩
  | some n =>
    unfold side
    simp only
    split
    · rename_i h
      have h1 : 0 ≤ mx 0 (mn (left s sg n) s.rows) := by unfold mx; split <;> omega
      have h2 : mx 0 (mn (left s sg n) s.rows) ≤ (s.rows : Int) := by
        unfold mx mn
        split <;> split <;> omega
      exact ⟨Int.ediv_nonneg (Int.mul_nonneg hm h1) (by omega), Int.ediv_le_of_le_mul (by omega) (Int.mul_le_mul_of_nonneg_left h2 hm)⟩
    · exact ⟨Int.le_refl _, hm⟩
theorem side_eq {s : Sm} (h : 0 < s.rows) (hn : s.nulls ≤ s.rows) (n : Int) : side s s.rows "=" (some n) = mn (eqR s) s.rows := by
  unfold side
  simp only
  rw [if_pos h]
  have e : left s "=" n = eqR s := if_pos rfl
  rw [e]
  have h0 := eqR_nn hn
  have h1 : mx 0 (mn (eqR s) s.rows) = mn (eqR s) s.rows := by
    unfold mx mn
    split <;> split at * <;> omega
  rw [h1, Int.mul_ediv_cancel_left _ (by omega)]
/-! a column -/
def given (vs : List (Option Int)) : List Int := vs.filterMap id
def bnds (ns : List Int) : List Int := (List.range (min 8 ns.length)).map fun p => ns.getD ((p + 1) * ns.length / min 8 ns.length - 1) 0
def sumI (k : Bool) (vs : List (Option Int)) : Sm := ⟨vs.length, vs.length - (given vs).length, dcnt (srt (given vs)), k, bnds (srt (given vs))⟩
theorem given_len (vs : List (Option Int)) : (given vs).length ≤ vs.length := List.length_filterMap_le _ _
theorem place_lt {n p : Nat} (hp : p < min 8 n) : (p + 1) * n / min 8 n - 1 < n := by
  have h0 : 0 < min 8 n := by omega
  have h1 : (p + 1) * n / min 8 n ≤ n := by
    refine Nat.div_le_of_le_mul ?_
    exact Nat.mul_le_mul (by omega) (Nat.le_refl _)
  omega
theorem bnds_mem {ns : List Int} {b : Int} (h : b ∈ bnds ns) : b ∈ ns := by
  obtain ⟨p, hp, rfl⟩ := List.mem_map.mp h
  have := place_lt (List.mem_range.mp hp)
  rw [List.getD_eq_getElem?_getD, List.getElem?_eq_getElem this]
  exact List.getElem_mem this
theorem bnds_len (ns : List Int) : (bnds ns).length = min 8 ns.length := by simp [bnds]
theorem mem_srt {ns : List Int} {b : Int} : b ∈ srt ns ↔ b ∈ ns := (srt_perm ns).mem_iff
def okC (k : Bool) (vs : List (Option Int)) : Prop := ∀ a, some a ∈ vs → okV k a
theorem given_mem {vs : List (Option Int)} {a : Int} (h : a ∈ given vs) : some a ∈ vs := by
  obtain ⟨o, ho, e⟩ := List.mem_filterMap.mp h
  rw [← show o = some a from e]; exact ho
end K28


/-! k28_what_is_known_of_columns: the readings of the defs and their derivations. Printed by gen.py. -/
namespace K28
open PySem PySem.Spec PyProof.Rows L2 Ts

def top (i : Nat) : Stmt := PySem.Challenge.pw_tablestack_k28_what_is_known_of_columns.main.body.getD i (.Pass ⟨0, 0, 0, 0⟩)

def inClass (s : Stmt) (i : Nat) : Stmt := match s with
  | .ClassDef _ _ _ body _ _ _ _ _ _ _ => body.getD i (.Pass ⟨0, 0, 0, 0⟩)
  | _ => .Pass ⟨0, 0, 0, 0⟩

/-- what the module says -/
structure Txt (K : PySem.W.Frag) (mg : Str → Option Value) : Prop where
  n_abs : mg "abs" = none
  n_dict : mg "dict" = none
  n_enumerate : mg "enumerate" = none
  n_int : mg "int" = none
  n_isinstance : mg "isinstance" = none
  n_len : mg "len" = none
  n_max : mg "max" = none
  n_min : mg "min" = none
  n_range : mg "range" = none
  n_sorted : mg "sorted" = none
  n_str : mg "str" = none
  n_tuple : mg "tuple" = none
  c_BUCKETS : ∃ t, mg "BUCKETS" = some (.int 8 t)

section
variable [Tt] {P : Program} {w : World} {K : PySem.W.Frag} {mg : Str → Option Value} {base : Heap}

/-! kind_of: level 1 -/
abbrev N_kind_of : List Str := ["value"]
def t_kind_of (K : PySem.W.Frag) (W : WX) : TS :=
  (tSeq (tIfS (tTest (tOp rIsN (tVar 0) (tC .non))) (tRet (tC (.str "null"))) tNext)
  (tRet (tIf (tB (tCB (rIsi K) (tCons (tVar 0) (tCons (tC (.ty "str")) tNil)))) (tC (.str "text")) (tC (.str "int")))))
abbrev s_kind_of : Stmt := (top 1)
theorem sc_kind_of : FnScope N_kind_of ["value"] (defScope s_kind_of) := ⟨rfl, rfl, rfl, by decide +kernel, rfl, by decide +kernel, by decide +kernel⟩
theorem der_kind_of (T : Txt K mg) {f : Addr} {cdv : Value} {A : Around} {outer : List Env} {s : Shared} {H : Hp} {E : XK} (hr : Room 0 (A.deeper (envOfC "kind_of" (defScope s_kind_of) s.heap.objs.size f cdv))) :
    PSs (cxOf (L2.CX P w) P w K mg base N_kind_of "kind_of" (defScope s_kind_of) f cdv A outer s H E) (defBody s_kind_of) (t_kind_of K (wDef E)) :=
  (pss_cons (ps_if (pt_cmpR op_isNG (pv 0) pe_non (nomark _)) (pss_one (ps_ret pe_str)) pss_nil)
  (pss_one (ps_ret (pe_ifExp (pt_val (pe_callB call_isi rfl T.n_isinstance PyProof.Rows.boot_isinstance (pa_cons (pv 0) (pa_cons (pe_bltn rfl T.n_str PyProof.Rows.boot_str rfl) pa_nil)))) pe_str pe_str))))

/-! Summary.__init__: level 1 -/
abbrev N_Summary___init__ : List Str := ["self", "rows", "nulls", "different", "bounds"]
def t_Summary___init__ (K : PySem.W.Frag) (W : WX) : TS :=
  (tSeq (sFld K (tVar 0) (tVar 1) "rows")
  (tSeq (sFld K (tVar 0) (tVar 2) "nulls")
  (tSeq (sFld K (tVar 0) (tVar 3) "different")
  (sFld K (tVar 0) (tCB (rTupO K) (tCons (tVar 4) tNil)) "bounds"))))
abbrev s_Summary___init__ : Stmt := (inClass (top 5) 0)
theorem sc_Summary___init__ : FnScope N_Summary___init__ ["self", "rows", "nulls", "different", "bounds"] (defScope s_Summary___init__) := ⟨rfl, rfl, rfl, by decide +kernel, rfl, by decide +kernel, by decide +kernel⟩
theorem der_Summary___init__ (T : Txt K mg) {f : Addr} {cdv : Value} {A : Around} {outer : List Env} {s : Shared} {H : Hp} {E : XK} (hr : Room 0 (A.deeper (envOfC "Summary.__init__" (defScope s_Summary___init__) s.heap.objs.size f cdv))) :
    PSs (cxOf (L2.CX P w) P w K mg base N_Summary___init__ "Summary.__init__" (defScope s_Summary___init__) f cdv A outer s H E) (defBody s_Summary___init__) (t_Summary___init__ K (wDef E)) :=
  (pss_cons (ps_fld (pv 0) (pv 1) rfl)
  (pss_cons (ps_fld (pv 0) (pv 2) rfl)
  (pss_cons (ps_fld (pv 0) (pv 3) rfl)
  (pss_one (ps_fld (pv 0) (pe_callTy call_tupG rfl T.n_tuple PyProof.Rows.boot_tuple (pa_cons (pv 4) pa_nil)) rfl)))))

/-! Summary.shown: level 1 -/
abbrev N_Summary_shown : List Str := ["self"]
def t_Summary_shown (K : PySem.W.Frag) (W : WX) : TS :=
  (tRet (tTup (tCons (tFld K (tVar 0) "rows") (tCons (tFld K (tVar 0) "nulls") (tCons (tFld K (tVar 0) "different") (tCons (tFld K (tVar 0) "bounds") tNil))))))
abbrev s_Summary_shown : Stmt := (inClass (top 5) 1)
theorem sc_Summary_shown : FnScope N_Summary_shown ["self"] (defScope s_Summary_shown) := ⟨rfl, rfl, rfl, by decide +kernel, rfl, by decide +kernel, by decide +kernel⟩
theorem der_Summary_shown (T : Txt K mg) {f : Addr} {cdv : Value} {A : Around} {outer : List Env} {s : Shared} {H : Hp} {E : XK} (hr : Room 0 (A.deeper (envOfC "Summary.shown" (defScope s_Summary_shown) s.heap.objs.size f cdv))) :
    PSs (cxOf (L2.CX P w) P w K mg base N_Summary_shown "Summary.shown" (defScope s_Summary_shown) f cdv A outer s H E) (defBody s_Summary_shown) (t_Summary_shown K (wDef E)) :=
  (pss_one (ps_ret (pe_tup (pa_cons (pe_fld (pv 0) rfl) (pa_cons (pe_fld (pv 0) rfl) (pa_cons (pe_fld (pv 0) rfl) (pa_cons (pe_fld (pv 0) rfl) pa_nil)))))))

/-! Summary.equal_rows: level 1 -/
abbrev N_Summary_equal_rows : List Str := ["self"]
def t_Summary_equal_rows (K : PySem.W.Frag) (W : WX) : TS :=
  (tSeq (tIfS (tTest (tOp (rEqG K) (tFld K (tVar 0) "different") (tC (.int 0)))) (tRet (tC (.int 0))) tNext)
  (tRet (tOp rDivG (tOp rSubG (tOp (rAddG K) (tOp rSubG (tFld K (tVar 0) "rows") (tFld K (tVar 0) "nulls")) (tFld K (tVar 0) "different")) (tC (.int 1))) (tFld K (tVar 0) "different"))))
abbrev s_Summary_equal_rows : Stmt := (inClass (top 5) 2)
theorem sc_Summary_equal_rows : FnScope N_Summary_equal_rows ["self"] (defScope s_Summary_equal_rows) := ⟨rfl, rfl, rfl, by decide +kernel, rfl, by decide +kernel, by decide +kernel⟩
theorem der_Summary_equal_rows (T : Txt K mg) {f : Addr} {cdv : Value} {A : Around} {outer : List Env} {s : Shared} {H : Hp} {E : XK} (hr : Room 0 (A.deeper (envOfC "Summary.equal_rows" (defScope s_Summary_equal_rows) s.heap.objs.size f cdv))) :
    PSs (cxOf (L2.CX P w) P w K mg base N_Summary_equal_rows "Summary.equal_rows" (defScope s_Summary_equal_rows) f cdv A outer s H E) (defBody s_Summary_equal_rows) (t_Summary_equal_rows K (wDef E)) :=
  (pss_cons (ps_if (pt_cmpR (op_eqG hr.units) (pe_fld (pv 0) rfl) pe_int (nomark _)) (pss_one (ps_ret pe_int)) pss_nil)
  (pss_one (ps_ret (pe_op op_divG (pe_op op_subG (pe_op op_addG (pe_op op_subG (pe_fld (pv 0) rfl) (pe_fld (pv 0) rfl)) (pe_fld (pv 0) rfl)) pe_int) (pe_fld (pv 0) rfl)))))

/-! _law_dice: level 1 -/
abbrev N__law_dice : List Str := ["cell"]
def t__law_dice (K : PySem.W.Frag) (W : WX) : TS :=
  (tSeq (tIfS (tTest (tChain (rLtG K) (rLtG K) (tOp rSubG (tC (.int 0)) (tC (.int 10))) (tVar 0) (tC (.int 10)))) (tRet (tLst (tCons (tCB rAbs (tCons (tVar 0) tNil)) (tCons (tC (.int 0)) (tCons (tC (.int 2)) tNil))))) tNext)
  (tRet (tLst (tCons (tVar 0) (tCons (tOp (rAddG K) (tC (.int 1)) (tOp rModG (tCB rInt1 (tCons (tVar 0) tNil)) (tC (.int 1009)))) (tCons (tCB rInt1 (tCons (tOp rGeG (tVar 0) (tOp rPowG (tC (.int 10)) (tC (.int 18)))) tNil)) tNil))))))
abbrev s__law_dice : Stmt := (top 10)
theorem sc__law_dice : FnScope N__law_dice ["cell"] (defScope s__law_dice) := ⟨rfl, rfl, rfl, by decide +kernel, rfl, by decide +kernel, by decide +kernel⟩
theorem der__law_dice (T : Txt K mg) {f : Addr} {cdv : Value} {A : Around} {outer : List Env} {s : Shared} {H : Hp} {E : XK} (hr : Room 0 (A.deeper (envOfC "_law_dice" (defScope s__law_dice) s.heap.objs.size f cdv))) :
    PSs (cxOf (L2.CX P w) P w K mg base N__law_dice "_law_dice" (defScope s__law_dice) f cdv A outer s H E) (defBody s__law_dice) (t__law_dice K (wDef E)) :=
  (pss_cons (ps_if (pt_chain (op_ltG hr.units0) (op_ltG hr.units0) (pe_op op_subG pe_int pe_int) (pv 0) pe_int) (pss_one (ps_ret (pe_lst (pa_cons (pe_callB call_absG rfl T.n_abs PyProof.Rows.boot_abs (pa_cons (pv 0) pa_nil)) (pa_cons pe_int (pa_cons pe_int pa_nil)))))) pss_nil)
  (pss_one (ps_ret (pe_lst (pa_cons (pv 0) (pa_cons (pe_op op_addG pe_int (pe_op op_modG (pe_callTy call_intG rfl T.n_int PyProof.Rows.boot_int (pa_cons (pv 0) pa_nil)) pe_int)) (pa_cons (pe_callTy call_intG rfl T.n_int PyProof.Rows.boot_int (pa_cons (pe_cmpR op_geG (pv 0) (pe_op op_powG pe_int pe_int) (nomark _)) pa_nil)) pa_nil)))))))

/-! _law_roll: level 1 -/
abbrev N__law_roll : List Str := ["dice", "many", "found"]
def t__law_roll (K : PySem.W.Frag) (W : WX) : TS :=
  (tSeq (tIfS (tOr (tTest (tOp (rEqG K) (tOp (rIx K) (tVar 0) (tC (.int 2))) (tC (.int 2)))) (tAnd (tTest (tOp (rEqG K) (tOp (rIx K) (tVar 0) (tC (.int 2))) (tC (.int 1)))) (tTest (tOp rGtG (tOp (rIx K) (tVar 0) (tC (.int 0))) (tC (.int 0)))))) (tSeq (tAsg (tOp rModG (tCB rInt1 (tCons (tOp (rIx K) (tVar 0) (tC (.int 0))) tNil)) (tVar 1)) (gName 2))
  (tSeq (tAsg (tOp rDivG (tOp (rIx K) (tVar 0) (tC (.int 0))) (tVar 1)) (gSub (tVar 0) (tC (.int 0)) rSetL))
  (tRet (tVar 2)))) tNext)
  (tSeq (tAsg (tC (.int 0)) (gSub (tVar 0) (tC (.int 2)) rSetL))
  (tSeq (tAsg (tOp rModG (tCB rInt1 (tCons (tOp (rAddG K) (tOp (rAddG K) (tOp (rMulG K) (tOp (rIx K) (tVar 0) (tC (.int 0))) (tC (.int 48271))) (tOp (rMulG K) (tOp (rIx K) (tVar 0) (tC (.int 1))) (tC (.int 69621)))) (tC (.int 11))) tNil)) (tC (.int 2147483647))) (gSub (tVar 0) (tC (.int 0)) rSetL))
  (tSeq (tAsg (tOp (rAddG K) (tOp (rIx K) (tVar 0) (tC (.int 1))) (tC (.int 1))) (gSub (tVar 0) (tC (.int 1)) rSetL))
  (tRet (tOp rModG (tCB rInt1 (tCons (tOp rDivG (tOp (rIx K) (tVar 0) (tC (.int 0))) (tC (.int 7))) tNil)) (tVar 1)))))))
abbrev s__law_roll : Stmt := (top 11)
theorem sc__law_roll : FnScope N__law_roll ["dice", "many"] (defScope s__law_roll) := ⟨rfl, rfl, rfl, by decide +kernel, rfl, by decide +kernel, by decide +kernel⟩
theorem der__law_roll (T : Txt K mg) {f : Addr} {cdv : Value} {A : Around} {outer : List Env} {s : Shared} {H : Hp} {E : XK} (hr : Room 0 (A.deeper (envOfC "_law_roll" (defScope s__law_roll) s.heap.objs.size f cdv))) :
    PSs (cxOf (L2.CX P w) P w K mg base N__law_roll "_law_roll" (defScope s__law_roll) f cdv A outer s H E) (defBody s__law_roll) (t__law_roll K (wDef E)) :=
  (pss_cons (ps_if (PW.pt (pw_or (pt_cmpR (op_eqG hr.units) (pe_ix ix_seq (pv 0) pe_int (fun _ _ => rfl)) pe_int (nomark _)) (pw_or1 (PW.pt (pw_and (pt_cmpR (op_eqG hr.units) (pe_ix ix_seq (pv 0) pe_int (fun _ _ => rfl)) pe_int (nomark _)) (pw_and1 (pt_cmpR op_gtG (pe_ix ix_seq (pv 0) pe_int (fun _ _ => rfl)) pe_int (nomark _)))))))) (pss_cons (ps_set (i := 2) sc__law_roll.nd rfl (by first | exact Or.inl rfl | exact Or.inr rfl) (pe_op op_modG (pe_callTy call_intG rfl T.n_int PyProof.Rows.boot_int (pa_cons (pe_ix ix_seq (pv 0) pe_int (fun _ _ => rfl)) pa_nil)) (pv 1)))
  (pss_cons (ps_asg (pe_op op_divG (pe_ix ix_seq (pv 0) pe_int (fun _ _ => rfl)) (pv 1)) (pg_sub (pv 0) pe_int set_list))
  (pss_one (ps_ret (pv 2))))) pss_nil)
  (pss_cons (ps_asg pe_int (pg_sub (pv 0) pe_int set_list))
  (pss_cons (ps_asg (pe_op op_modG (pe_callTy call_intG rfl T.n_int PyProof.Rows.boot_int (pa_cons (pe_op op_addG (pe_op op_addG (pe_op op_mulG (pe_ix ix_seq (pv 0) pe_int (fun _ _ => rfl)) pe_int) (pe_op op_mulG (pe_ix ix_seq (pv 0) pe_int (fun _ _ => rfl)) pe_int)) pe_int) pa_nil)) pe_int) (pg_sub (pv 0) pe_int set_list))
  (pss_cons (ps_asg (pe_op op_addG (pe_ix ix_seq (pv 0) pe_int (fun _ _ => rfl)) pe_int) (pg_sub (pv 0) pe_int set_list))
  (pss_one (ps_ret (pe_op op_modG (pe_callTy call_intG rfl T.n_int PyProof.Rows.boot_int (pa_cons (pe_op op_divG (pe_ix ix_seq (pv 0) pe_int (fun _ _ => rfl)) pe_int) pa_nil)) (pv 1))))))))

/-! _law_bounds: level 1 -/
abbrev N__law_bounds : List Str := ["known", "many", "k"]
def t__law_bounds (K : PySem.W.Frag) (W : WX) : TS :=
  (tSeq (tAsg (tCB rMin2 (tCons (tC (.int 8)) (tCons (tCB (rLenC K) (tCons (tVar 0) tNil)) tNil))) (gName 1))
  (tRet (tCB (rTupO K) (tCons (tLc (iRng1 (tCons (tVar 1) tNil)) (gName 2) tYes (tOp (rIx K) (tVar 0) (tOp rSubG (tOp rDivG (tOp (rMulG K) (tOp (rAddG K) (tVar 2) (tC (.int 1))) (tCB (rLenC K) (tCons (tVar 0) tNil))) (tVar 1)) (tC (.int 1)))) [2]) tNil))))
abbrev s__law_bounds : Stmt := (top 14)
theorem sc__law_bounds : FnScope N__law_bounds ["known"] (defScope s__law_bounds) := ⟨rfl, rfl, rfl, by decide +kernel, rfl, by decide +kernel, by decide +kernel⟩
theorem der__law_bounds (T : Txt K mg) {f : Addr} {cdv : Value} {A : Around} {outer : List Env} {s : Shared} {H : Hp} {E : XK} (hr : Room 0 (A.deeper (envOfC "_law_bounds" (defScope s__law_bounds) s.heap.objs.size f cdv))) :
    PSs (cxOf (L2.CX P w) P w K mg base N__law_bounds "_law_bounds" (defScope s__law_bounds) f cdv A outer s H E) (defBody s__law_bounds) (t__law_bounds K (wDef E)) :=
  (pss_cons (ps_set (i := 1) sc__law_bounds.nd rfl (by first | exact Or.inl rfl | exact Or.inr rfl) (pe_callB (call_minG rfl) rfl T.n_min PyProof.Rows.boot_min (pa_cons pe_int (pa_cons (pe_callB call_lenG rfl T.n_len boot_len (pa_cons (pv 0) pa_nil)) pa_nil))))
  (pss_one (ps_ret (pe_callTy call_tupG rfl T.n_tuple PyProof.Rows.boot_tuple (pa_cons (pe_lc (own := [("k", 2)]) (g := (gName 2)) rfl sc__law_bounds.nd (pi_range1 rfl T.n_range (pa_cons (pv 1) pa_nil)) (blkOk_by (N := N__law_bounds) (sc := defScope s__law_bounds) (own := [("k", 2)]) (by decide +kernel)) (fun _ _ _ _ _ => (pg_name (i := 2) sc__law_bounds.nd rfl (by first | exact Or.inl rfl | exact Or.inr rfl))) (fun _ _ _ _ _ => pts_nil) (fun _ _ _ _ _ => (pe_ix ix_seq (pv 0) (pe_op op_subG (pe_op op_divG (pe_op op_mulG (pe_op op_addG (pv 2) pe_int) (pe_callB call_lenG rfl T.n_len boot_len (pa_cons (pv 0) pa_nil))) (pv 1)) pe_int) (fun _ _ => rfl)))) pa_nil)))))

/-! rank: level 2 -/
abbrev N_rank : List Str := ["value"]
def t_rank (K : PySem.W.Frag) (W : WX) (sp_kind_of : Sp) : TS :=
  (tSeq (tIfS (tTest (tOp rIsN (tVar 0) (tC .non))) (tRet (tTup (tCons (tC (.int 0)) (tCons (tC (.int 0)) tNil)))) tNext)
  (tRet (tIf (tTest (tOp (rEqG K) (tCallS sp_kind_of (WE W) (tCons (tVar 0) tNil)) (tC (.str "int")))) (tTup (tCons (tC (.int 1)) (tCons (tVar 0) tNil))) (tTup (tCons (tC (.int 2)) (tCons (tVar 0) tNil))))))
abbrev s_rank : Stmt := (top 2)
theorem sc_rank : FnScope N_rank ["value"] (defScope s_rank) := ⟨rfl, rfl, rfl, by decide +kernel, rfl, by decide +kernel, by decide +kernel⟩
theorem der_rank {sp_kind_of : Sp} (T : Txt K mg) (c_kind_of : Cal P w K mg base 1 "kind_of" sp_kind_of) {f : Addr} {cdv : Value} {A : Around} {outer : List Env} {s : Shared} {H : Hp} {E : XK} (hr : Room 1 (A.deeper (envOfC "rank" (defScope s_rank) s.heap.objs.size f cdv))) :
    PSs (cxOf (L2.CX P w) P w K mg base N_rank "rank" (defScope s_rank) f cdv A outer s H E) (defBody s_rank) (t_rank K (wDef E) sp_kind_of) :=
  (pss_cons (ps_if (pt_cmpR op_isNG (pv 0) pe_non (nomark _)) (pss_one (ps_ret (pe_tup (pa_cons pe_int (pa_cons pe_int pa_nil))))) pss_nil)
  (pss_one (ps_ret (pe_ifExp (pt_cmpR (op_eqG hr.units) (pe_cal c_kind_of hr (by decide) rfl (fun σ => passAt (takes_of rfl rfl rfl rfl) σ) (pa_cons (pv 0) pa_nil)) pe_str (nomark _)) (pe_tup (pa_cons pe_int (pa_cons (pv 0) pa_nil))) (pe_tup (pa_cons pe_int (pa_cons (pv 0) pa_nil)))))))

/-! _law_rounds: level 2 -/
abbrev N__law_rounds : List Str := ["script", "most", "cells", "cell"]
def t__law_rounds (K : PySem.W.Frag) (W : WX) (sp__law_dice : Sp) : TS :=
  (tSeq (tAsg (tSl (rSlG K) (tVar 0) tNoPart (tPart (tVar 1))) (gName 2))
  (tSeq (tIfS (tTest (tOp (rEqG K) (tVar 2) (tLst tNil))) (tAsg (tLst (tCons (tC (.int 0)) tNil)) (gName 2)) tNext)
  (tRet (tLc (iSeq K (tVar 2)) (gName 3) tYes (tCallS sp__law_dice E00 (tCons (tVar 3) tNil)) [3]))))
abbrev s__law_rounds : Stmt := (top 12)
theorem sc__law_rounds : FnScope N__law_rounds ["script", "most"] (defScope s__law_rounds) := ⟨rfl, rfl, rfl, by decide +kernel, rfl, by decide +kernel, by decide +kernel⟩
theorem der__law_rounds {sp__law_dice : Sp} (T : Txt K mg) (c__law_dice : Cal P w K mg base 1 "_law_dice" sp__law_dice) {f : Addr} {cdv : Value} {A : Around} {outer : List Env} {s : Shared} {H : Hp} {E : XK} (hr : Room 1 (A.deeper (envOfC "_law_rounds" (defScope s__law_rounds) s.heap.objs.size f cdv))) :
    PSs (cxOf (L2.CX P w) P w K mg base N__law_rounds "_law_rounds" (defScope s__law_rounds) f cdv A outer s H E) (defBody s__law_rounds) (t__law_rounds K (wDef E) sp__law_dice) :=
  (pss_cons (ps_set (i := 2) sc__law_rounds.nd rfl (by first | exact Or.inl rfl | exact Or.inr rfl) (pe_slice sl_G (pv 0) po_none (po_some (pv 1))))
  (pss_cons (ps_if (pt_cmpR (op_eqG hr.units) (pv 2) (pe_lst pa_nil) (nomark _)) (pss_one (ps_set (i := 2) sc__law_rounds.nd rfl (by first | exact Or.inl rfl | exact Or.inr rfl) (pe_lst (pa_cons pe_int pa_nil)))) pss_nil)
  (pss_one (ps_ret (pe_lc (own := [("cell", 3)]) (g := (gName 3)) rfl sc__law_rounds.nd (pi_seq (pv 2)) (blkOk_by (N := N__law_rounds) (sc := defScope s__law_rounds) (own := [("cell", 3)]) (by decide +kernel)) (fun _ _ _ _ _ => (pg_name (i := 3) sc__law_rounds.nd rfl (by first | exact Or.inl rfl | exact Or.inr rfl))) (fun _ _ _ _ _ => pts_nil) (fun _ _ _ _ _ => (pe_cal c__law_dice hr (by decide) rfl (fun σ => passE) (pa_cons (pv 3) pa_nil))))))))

/-! _law_values: level 2 -/
abbrev N__law_values : List Str := ["dice", "kind", "many", "k"]
def t__law_values (K : PySem.W.Frag) (W : WX) (sp__law_roll : Sp) : TS :=
  (tSeq (tAsg (tTup (tCons (tCallS sp__law_roll (WE W) (tCons (tVar 0) (tCons (tC (.int 2)) tNil))) (tCons (tCallS sp__law_roll (WE W) (tCons (tVar 0) (tCons (tC (.int 41)) tNil))) tNil))) (gTup K 2 (gCons (gName 1) (gCons (gName 2) gNil))))
  (tRet (tLc (iRng1 (tCons (tVar 2) tNil)) (gName 3) tYes (tIf (tTest (tOp (rEqG K) (tCallS sp__law_roll E00 (tCons (tVar 0) (tCons (tC (.int 6)) tNil))) (tC (.int 0)))) (tC .non) (tIf (tTest (tOp (rEqG K) (tVar 1) (tC (.int 0)))) (tCallS sp__law_roll E00 (tCons (tVar 0) (tCons (tC (.int 12)) tNil))) (tOp (rIx K) (tLst (tCons (tC (.str "a")) (tCons (tC (.str "b")) (tCons (tC (.str "ba")) (tCons (tC (.str "c")) tNil))))) (tCallS sp__law_roll E00 (tCons (tVar 0) (tCons (tC (.int 4)) tNil)))))) [3])))
abbrev s__law_values : Stmt := (top 13)
theorem sc__law_values : FnScope N__law_values ["dice"] (defScope s__law_values) := ⟨rfl, rfl, rfl, by decide +kernel, rfl, by decide +kernel, by decide +kernel⟩
theorem der__law_values {sp__law_roll : Sp} (T : Txt K mg) (c__law_roll : Cal P w K mg base 1 "_law_roll" sp__law_roll) {f : Addr} {cdv : Value} {A : Around} {outer : List Env} {s : Shared} {H : Hp} {E : XK} (hr : Room 1 (A.deeper (envOfC "_law_values" (defScope s__law_values) s.heap.objs.size f cdv))) :
    PSs (cxOf (L2.CX P w) P w K mg base N__law_values "_law_values" (defScope s__law_values) f cdv A outer s H E) (defBody s__law_values) (t__law_values K (wDef E) sp__law_roll) :=
  (pss_cons (ps_asg (pe_tup (pa_cons (pe_cal c__law_roll hr (by decide) rfl (fun σ => passAt (takes_of rfl rfl rfl rfl) σ) (pa_cons (pv 0) (pa_cons pe_int pa_nil))) (pa_cons (pe_cal c__law_roll hr (by decide) rfl (fun σ => passAt (takes_of rfl rfl rfl rfl) σ) (pa_cons (pv 0) (pa_cons pe_int pa_nil))) pa_nil))) (pg_tup rfl (pgs_cons (pg_name (i := 1) sc__law_values.nd rfl (by first | exact Or.inl rfl | exact Or.inr rfl)) (pgs_cons (pg_name (i := 2) sc__law_values.nd rfl (by first | exact Or.inl rfl | exact Or.inr rfl)) pgs_nil))))
  (pss_one (ps_ret (pe_lc (own := [("k", 3)]) (g := (gName 3)) rfl sc__law_values.nd (pi_range1 rfl T.n_range (pa_cons (pv 2) pa_nil)) (blkOk_by (N := N__law_values) (sc := defScope s__law_values) (own := [("k", 3)]) (by decide +kernel)) (fun _ _ _ _ _ => (pg_name (i := 3) sc__law_values.nd rfl (by first | exact Or.inl rfl | exact Or.inr rfl))) (fun _ _ _ _ _ => pts_nil) (fun _ _ _ _ _ => (pe_ifExp (pt_cmpR (op_eqG hr.units) (pe_cal c__law_roll hr (by decide) rfl (fun σ => passE) (pa_cons (pv 0) (pa_cons pe_int pa_nil))) pe_int (nomark _)) pe_non (pe_ifExp (pt_cmpR (op_eqG hr.units) (pv 1) pe_int (nomark _)) (pe_cal c__law_roll hr (by decide) rfl (fun σ => passE) (pa_cons (pv 0) (pa_cons pe_int pa_nil))) (pe_ix ix_seq (pe_lst (pa_cons pe_str (pa_cons pe_str (pa_cons pe_str (pa_cons pe_str pa_nil))))) (pe_cal c__law_roll hr (by decide) rfl (fun σ => passE) (pa_cons (pv 0) (pa_cons pe_int pa_nil))) (fun _ _ => rfl)))))))))

/-! Summary.below_rows: level 3 -/
abbrev N_Summary_below_rows : List Str := ["self", "value", "passed", "bound"]
def t_Summary_below_rows (K : PySem.W.Frag) (W : WX) (sp_rank : Sp) : TS :=
  (tSeq (tIfS (tTest (tOp (rEqG K) (tFld K (tVar 0) "bounds") (tTup tNil))) (tRet (tC (.int 0))) tNext)
  (tSeq (tAsg (tCB (rLenC K) (tCons (tLc (iSeq K (tFld K (tVar 0) "bounds")) (gName 3) (tTest (tOp (rLtH K) (tVar 3) (tCallS sp_rank E00 (tCons (tVar 1) tNil)))) (tVar 3) [3]) tNil)) (gName 2))
  (tRet (tOp rDivG (tOp (rMulG K) (tOp rSubG (tFld K (tVar 0) "rows") (tFld K (tVar 0) "nulls")) (tVar 2)) (tCB (rLenC K) (tCons (tFld K (tVar 0) "bounds") tNil))))))
abbrev s_Summary_below_rows : Stmt := (inClass (top 5) 3)
theorem sc_Summary_below_rows : FnScope N_Summary_below_rows ["self", "value"] (defScope s_Summary_below_rows) := ⟨rfl, rfl, rfl, by decide +kernel, rfl, by decide +kernel, by decide +kernel⟩
theorem der_Summary_below_rows {sp_rank : Sp} (T : Txt K mg) (c_rank : Cal P w K mg base 2 "rank" sp_rank) {f : Addr} {cdv : Value} {A : Around} {outer : List Env} {s : Shared} {H : Hp} {E : XK} (hr : Room 2 (A.deeper (envOfC "Summary.below_rows" (defScope s_Summary_below_rows) s.heap.objs.size f cdv))) :
    PSs (cxOf (L2.CX P w) P w K mg base N_Summary_below_rows "Summary.below_rows" (defScope s_Summary_below_rows) f cdv A outer s H E) (defBody s_Summary_below_rows) (t_Summary_below_rows K (wDef E) sp_rank) :=
  (pss_cons (ps_if (pt_cmpR (op_eqG hr.units) (pe_fld (pv 0) rfl) (pe_tup pa_nil) (nomark _)) (pss_one (ps_ret pe_int)) pss_nil)
  (pss_cons (ps_set (i := 2) sc_Summary_below_rows.nd rfl (by first | exact Or.inl rfl | exact Or.inr rfl) (pe_callB call_lenG rfl T.n_len boot_len (pa_cons (pe_lc (own := [("bound", 3)]) (g := (gName 3)) rfl sc_Summary_below_rows.nd (pi_seq (pe_fld (pv 0) rfl)) (blkOk_by (N := N_Summary_below_rows) (sc := defScope s_Summary_below_rows) (own := [("bound", 3)]) (by decide +kernel)) (fun _ _ _ _ _ => (pg_name (i := 3) sc_Summary_below_rows.nd rfl (by first | exact Or.inl rfl | exact Or.inr rfl))) (fun _ _ _ _ _ => (pts_one (pt_cmpR (op_ltH hr.units) (pv 3) (pe_cal c_rank hr (by decide) rfl (fun σ => passE) (pa_cons (pv 1) pa_nil)) (nomark _)))) (fun _ _ _ _ _ => (pv 3))) pa_nil)))
  (pss_one (ps_ret (pe_op op_divG (pe_op op_mulG (pe_op op_subG (pe_fld (pv 0) rfl) (pe_fld (pv 0) rfl)) (pv 2)) (pe_callB call_lenG rfl T.n_len boot_len (pa_cons (pe_fld (pv 0) rfl) pa_nil)))))))

/-! Summary.range_rows: level 4 -/
abbrev N_Summary_range_rows : List Str := ["self", "low", "high", "top"]
def t_Summary_range_rows (K : PySem.W.Frag) (W : WX) (sp_Summary_below_rows : Sp) : TS :=
  (tSeq (tAsg (tIf (tTest (tOp rIsN (tVar 2) (tC .non))) (tOp rSubG (tFld K (tVar 0) "rows") (tFld K (tVar 0) "nulls")) (tMeth (He.ga K "Summary") "below_rows" sp_Summary_below_rows [] XF (tVar 0) (tCons (tVar 2) tNil))) (gName 3))
  (tRet (tCB rMax2 (tCons (tC (.int 0)) (tCons (tOp rSubG (tVar 3) (tIf (tTest (tOp rIsN (tVar 1) (tC .non))) (tC (.int 0)) (tMeth (He.ga K "Summary") "below_rows" sp_Summary_below_rows [] XF (tVar 0) (tCons (tVar 1) tNil)))) tNil)))))
abbrev s_Summary_range_rows : Stmt := (inClass (top 5) 4)
theorem sc_Summary_range_rows : FnScope N_Summary_range_rows ["self", "low", "high"] (defScope s_Summary_range_rows) := ⟨rfl, rfl, rfl, by decide +kernel, rfl, by decide +kernel, by decide +kernel⟩
theorem der_Summary_range_rows {sp_Summary_below_rows : Sp} (T : Txt K mg) (m_Summary_below_rows : Mth P w K mg base 3 (He.ga K "Summary") "below_rows" sp_Summary_below_rows) {f : Addr} {cdv : Value} {A : Around} {outer : List Env} {s : Shared} {H : Hp} {E : XK} (hr : Room 3 (A.deeper (envOfC "Summary.range_rows" (defScope s_Summary_range_rows) s.heap.objs.size f cdv))) :
    PSs (cxOf (L2.CX P w) P w K mg base N_Summary_range_rows "Summary.range_rows" (defScope s_Summary_range_rows) f cdv A outer s H E) (defBody s_Summary_range_rows) (t_Summary_range_rows K (wDef E) sp_Summary_below_rows) :=
  (pss_cons (ps_set (i := 3) sc_Summary_range_rows.nd rfl (by first | exact Or.inl rfl | exact Or.inr rfl) (pe_ifExp (pt_cmpR op_isNG (pv 2) pe_non (nomark _)) (pe_op op_subG (pe_fld (pv 0) rfl) (pe_fld (pv 0) rfl)) (pe_mthA m_Summary_below_rows hr (by decide) (pv 0) (pa_cons (pv 2) pa_nil))))
  (pss_one (ps_ret (pe_callB (call_maxG rfl) rfl T.n_max PyProof.Rows.boot_max (pa_cons pe_int (pa_cons (pe_op op_subG (pv 3) (pe_ifExp (pt_cmpR op_isNG (pv 1) pe_non (nomark _)) pe_int (pe_mthA m_Summary_below_rows hr (by decide) (pv 0) (pa_cons (pv 1) pa_nil)))) pa_nil))))))

/-! expected_share: level 5 -/
abbrev N_expected_share : List Str := ["summaries", "sides", "many", "place", "sign", "value", "summary", "left"]
def t_expected_share (K : PySem.W.Frag) (W : WX) (sp_Summary_below_rows : Sp) (sp_Summary_equal_rows : Sp) (sp_Summary_range_rows : Sp) : TS :=
  (tSeq (tFor (iSeq K (tVar 1)) (gTup K 3 (gCons (gName 3) (gCons (gName 4) (gCons (gName 5) gNil)))) (tSeq (tAsg (tOp (rIx K) (tVar 0) (tVar 3)) (gName 6))
  (tIfS (tAnd (tTest (tOp rGtG (tFld K (tVar 6) "rows") (tC (.int 0)))) (tTest (tOp rNotN (tVar 5) (tC .non)))) (tSeq (tIfS (tTest (tOp (rEqG K) (tVar 4) (tC (.str "=")))) (tAsg (tMeth (He.ga K "Summary") "equal_rows" sp_Summary_equal_rows [] XF (tVar 6) tNil) (gName 7)) (tIfS (tTest (tOp (rInG K false) (tVar 4) (tTup (tCons (tC (.str "<")) (tCons (tC (.str "<=")) tNil))))) (tAsg (tOp (rAddG K) (tMeth (He.ga K "Summary") "below_rows" sp_Summary_below_rows [] XF (tVar 6) (tCons (tVar 5) tNil)) (tIf (tTest (tOp (rEqG K) (tVar 4) (tC (.str "<=")))) (tMeth (He.ga K "Summary") "equal_rows" sp_Summary_equal_rows [] XF (tVar 6) tNil) (tC (.int 0)))) (gName 7)) (tAsg (tOp rSubG (tMeth (He.ga K "Summary") "range_rows" sp_Summary_range_rows [] XF (tVar 6) (tCons (tVar 5) (tCons (tC .non) tNil))) (tIf (tTest (tOp (rEqG K) (tVar 4) (tC (.str ">")))) (tMeth (He.ga K "Summary") "equal_rows" sp_Summary_equal_rows [] XF (tVar 6) tNil) (tC (.int 0)))) (gName 7))))
  (tAsg (tOp rDivG (tOp (rMulG K) (tVar 2) (tCB rMax2 (tCons (tC (.int 0)) (tCons (tCB rMin2 (tCons (tVar 7) (tCons (tFld K (tVar 6) "rows") tNil))) tNil)))) (tFld K (tVar 6) "rows")) (gName 2))) (tAsg (tC (.int 0)) (gName 2)))))
  (tRet (tVar 2)))
abbrev s_expected_share : Stmt := (top 8)
theorem sc_expected_share : FnScope N_expected_share ["summaries", "sides", "many"] (defScope s_expected_share) := ⟨rfl, rfl, rfl, by decide +kernel, rfl, by decide +kernel, by decide +kernel⟩
theorem der_expected_share {sp_Summary_below_rows : Sp} {sp_Summary_equal_rows : Sp} {sp_Summary_range_rows : Sp} (T : Txt K mg) (m_Summary_below_rows : Mth P w K mg base 3 (He.ga K "Summary") "below_rows" sp_Summary_below_rows) (m_Summary_equal_rows : Mth P w K mg base 1 (He.ga K "Summary") "equal_rows" sp_Summary_equal_rows) (m_Summary_range_rows : Mth P w K mg base 4 (He.ga K "Summary") "range_rows" sp_Summary_range_rows) {f : Addr} {cdv : Value} {A : Around} {outer : List Env} {s : Shared} {H : Hp} {E : XK} (hr : Room 4 (A.deeper (envOfC "expected_share" (defScope s_expected_share) s.heap.objs.size f cdv))) :
    PSs (cxOf (L2.CX P w) P w K mg base N_expected_share "expected_share" (defScope s_expected_share) f cdv A outer s H E) (defBody s_expected_share) (t_expected_share K (wDef E) sp_Summary_below_rows sp_Summary_equal_rows sp_Summary_range_rows) :=
  (pss_cons (ps_for (passes_of rfl) rfl (pi_seq (pv 1)) (pg_tup rfl (pgs_cons (pg_name (i := 3) sc_expected_share.nd rfl (by first | exact Or.inl rfl | exact Or.inr rfl)) (pgs_cons (pg_name (i := 4) sc_expected_share.nd rfl (by first | exact Or.inl rfl | exact Or.inr rfl)) (pgs_cons (pg_name (i := 5) sc_expected_share.nd rfl (by first | exact Or.inl rfl | exact Or.inr rfl)) pgs_nil)))) (pss_cons (ps_set (i := 6) sc_expected_share.nd rfl (by first | exact Or.inl rfl | exact Or.inr rfl) (pe_ix ix_seq (pv 0) (pv 3) (fun _ _ => rfl)))
  (pss_one (ps_if (PW.pt (pw_and (pt_cmpR op_gtG (pe_fld (pv 6) rfl) pe_int (nomark _)) (pw_and1 (pt_cmpR op_notNG (pv 5) pe_non (nomark _))))) (pss_cons (ps_if (pt_cmpR (op_eqG hr.units) (pv 4) pe_str (nomark _)) (pss_one (ps_set (i := 7) sc_expected_share.nd rfl (by first | exact Or.inl rfl | exact Or.inr rfl) (pe_mth0 m_Summary_equal_rows hr (by decide) (pv 6)))) (pss_one (ps_if (pt_cmpR op_inG (pv 4) (pe_tup (pa_cons pe_str (pa_cons pe_str pa_nil))) rfl) (pss_one (ps_set (i := 7) sc_expected_share.nd rfl (by first | exact Or.inl rfl | exact Or.inr rfl) (pe_op op_addG (pe_mthA m_Summary_below_rows hr (by decide) (pv 6) (pa_cons (pv 5) pa_nil)) (pe_ifExp (pt_cmpR (op_eqG hr.units) (pv 4) pe_str (nomark _)) (pe_mth0 m_Summary_equal_rows hr (by decide) (pv 6)) pe_int)))) (pss_one (ps_set (i := 7) sc_expected_share.nd rfl (by first | exact Or.inl rfl | exact Or.inr rfl) (pe_op op_subG (pe_mthA m_Summary_range_rows hr (by decide) (pv 6) (pa_cons (pv 5) (pa_cons pe_non pa_nil))) (pe_ifExp (pt_cmpR (op_eqG hr.units) (pv 4) pe_str (nomark _)) (pe_mth0 m_Summary_equal_rows hr (by decide) (pv 6)) pe_int)))))))
  (pss_one (ps_set (i := 2) sc_expected_share.nd rfl (by first | exact Or.inl rfl | exact Or.inr rfl) (pe_op op_divG (pe_op op_mulG (pv 2) (pe_callB (call_maxG rfl) rfl T.n_max PyProof.Rows.boot_max (pa_cons pe_int (pa_cons (pe_callB (call_minG rfl) rfl T.n_min PyProof.Rows.boot_min (pa_cons (pv 7) (pa_cons (pe_fld (pv 6) rfl) pa_nil))) pa_nil)))) (pe_fld (pv 6) rfl))))) (pss_one (ps_set (i := 2) sc_expected_share.nd rfl (by first | exact Or.inl rfl | exact Or.inr rfl) pe_int))))))
  (pss_one (ps_ret (pv 2))))

/-! summarize: level 9 -/
abbrev N_summarize : List Str := ["values", "ranks", "different", "many", "bounds", "value", "place", "one"]
def t_summarize (K : PySem.W.Frag) (W : WX) (sp_rank : Sp) (sp_Summary : Sp) : TS :=
  (tSeq (tAsg (tSortG K (tGe Tt.tb (iSeq K (tVar 0)) (gName 5) (tTest (tOp rNotN (tVar 5) (tC .non))) (tCallS sp_rank E00 (tCons (tVar 5) tNil)) [5])) (gName 1))
  (tSeq (tAsg (tCB (rLenC K) (tCons (tLc (iEnum K (tCons (tVar 1) tNil)) (gTup K 2 (gCons (gName 6) (gCons (gName 7) gNil))) (tOr (tTest (tOp (rEqG K) (tVar 6) (tC (.int 0)))) (tTest (tOp (rNeG K) (tOp (rIx K) (tVar 1) (tOp rSubG (tVar 6) (tC (.int 1)))) (tVar 7)))) (tVar 6) [6, 7]) tNil)) (gName 2))
  (tSeq (tAsg (tCB rMin2 (tCons (tC (.int 8)) (tCons (tCB (rLenC K) (tCons (tVar 1) tNil)) tNil))) (gName 3))
  (tSeq (tAsg (tLc (iRng1 (tCons (tVar 3) tNil)) (gName 6) tYes (tOp (rIx K) (tVar 1) (tOp rSubG (tOp rDivG (tOp (rMulG K) (tOp (rAddG K) (tVar 6) (tC (.int 1))) (tCB (rLenC K) (tCons (tVar 1) tNil))) (tVar 3)) (tC (.int 1)))) [6]) (gName 4))
  (tRet (tMake (He.ga K "Summary") sp_Summary [] XF (tCons (tCB (rLenC K) (tCons (tVar 0) tNil)) (tCons (tOp rSubG (tCB (rLenC K) (tCons (tVar 0) tNil)) (tCB (rLenC K) (tCons (tVar 1) tNil))) (tCons (tVar 2) (tCons (tVar 4) tNil))))))))))
abbrev s_summarize : Stmt := (top 6)
theorem sc_summarize : FnScope N_summarize ["values"] (defScope s_summarize) := ⟨rfl, rfl, rfl, by decide +kernel, rfl, by decide +kernel, by decide +kernel⟩
abbrev genQ_summarize : Str := (envOfC "summarize" (defScope s_summarize) 0 0 .none).qual ++ "<genexpr>"
theorem der_summarize {sp_rank : Sp} {sp_Summary : Sp} (T : Txt K mg) (c_rank : Cal P w K mg base 2 "rank" sp_rank) (n_Summary : New P w K mg base 1 "Summary" (He.ga K "Summary") sp_Summary) {f : Addr} {cdv : Value} {A : Around} {outer : List Env} {s : Shared} {H : Hp} {E : XK} {cc Pt : Addr} (TB : LamX.TabB base mg cc Pt) (hmT : (Pt, genQ_summarize) ∈ Tt.tb) (hu : ∀ p ∈ Tt.tb, p.1 = Pt → p.2 = genQ_summarize) (HC : cdv = .ref cc) (hr : Room 8 (A.deeper (envOfC "summarize" (defScope s_summarize) s.heap.objs.size f cdv))) :
    PSs (cxOf (L2.CX P w) P w K mg base N_summarize "summarize" (defScope s_summarize) f cdv A outer s H E) (defBody s_summarize) (t_summarize K (wDef E) sp_rank sp_Summary) :=
  (pss_cons (ps_set (i := 1) sc_summarize.nd rfl (by first | exact Or.inl rfl | exact Or.inr rfl) (pe_sortG (k := 2 + 1) (pgen_ge (k := 2) (own := [("value", 5)]) (hr.mono (by decide)) sc_summarize.nd (gblk_by (N := N_summarize) (sc := defScope s_summarize) (by decide +kernel)) TB HC hmT hu (pi_seq (pv 0)) (fun A s H ex C code pn hr => (pg_name (i := 5) sc_summarize.nd rfl (by first | exact Or.inl rfl | exact Or.inr rfl))) (fun A s H ex C code pn hr => (pts_one (pt_cmpR op_notNG (pv 5) pe_non (nomark _)))) (fun A s H ex C code pn hr => (pe_cal c_rank hr (by decide) rfl (fun σ => passE) (pa_cons (pv 5) pa_nil))) (fun _ => rfl)) hr rfl T.n_sorted))
  (pss_cons (ps_set (i := 2) sc_summarize.nd rfl (by first | exact Or.inl rfl | exact Or.inr rfl) (pe_callB call_lenG rfl T.n_len boot_len (pa_cons (pe_lc (own := [("place", 6), ("one", 7)]) (g := (gTup K 2 (gCons (gName 6) (gCons (gName 7) gNil)))) rfl sc_summarize.nd (pi_enum rfl T.n_enumerate (pa_cons (pv 1) pa_nil)) (blkOk_by (N := N_summarize) (sc := defScope s_summarize) (own := [("place", 6), ("one", 7)]) (by decide +kernel)) (fun _ _ _ _ _ => (pg_tup rfl (pgs_cons (pg_name (i := 6) sc_summarize.nd rfl (by first | exact Or.inl rfl | exact Or.inr rfl)) (pgs_cons (pg_name (i := 7) sc_summarize.nd rfl (by first | exact Or.inl rfl | exact Or.inr rfl)) pgs_nil)))) (fun _ _ _ _ _ => (pts_one (PW.pt (pw_or (pt_cmpR (op_eqG hr.units) (pv 6) pe_int (nomark _)) (pw_or1 (pt_cmpR (op_neG hr.units) (pe_ix ix_seq (pv 1) (pe_op op_subG (pv 6) pe_int) (fun _ _ => rfl)) (pv 7) (nomark _))))))) (fun _ _ _ _ _ => (pv 6))) pa_nil)))
  (pss_cons (ps_set (i := 3) sc_summarize.nd rfl (by first | exact Or.inl rfl | exact Or.inr rfl) (pe_callB (call_minG rfl) rfl T.n_min PyProof.Rows.boot_min (pa_cons (pe_globI T.c_BUCKETS) (pa_cons (pe_callB call_lenG rfl T.n_len boot_len (pa_cons (pv 1) pa_nil)) pa_nil))))
  (pss_cons (ps_setLc (i := 4) (own := [("place", 6)]) (g := (gName 6)) rfl sc_summarize.nd rfl rfl (sw_true rfl rfl rfl (by decide +kernel)) (pi_range1 rfl T.n_range (pa_cons (pv 3) pa_nil)) (blkOk_by (N := N_summarize) (sc := defScope s_summarize) (own := [("place", 6)]) (by decide +kernel)) (fun _ _ _ _ _ => (pg_name (i := 6) sc_summarize.nd rfl (by first | exact Or.inl rfl | exact Or.inr rfl))) (fun _ _ _ _ _ => pts_nil) (fun _ _ _ _ _ => (pe_ix ix_seq (pv 1) (pe_op op_subG (pe_op op_divG (pe_op op_mulG (pe_op op_addG (pv 6) pe_int) (pe_callB call_lenG rfl T.n_len boot_len (pa_cons (pv 1) pa_nil))) (pv 3)) pe_int) (fun _ _ => rfl))))
  (pss_one (ps_ret (pe_new n_Summary hr (by decide) rfl (pa_cons (pe_callB call_lenG rfl T.n_len boot_len (pa_cons (pv 0) pa_nil)) (pa_cons (pe_op op_subG (pe_callB call_lenG rfl T.n_len boot_len (pa_cons (pv 0) pa_nil)) (pe_callB call_lenG rfl T.n_len boot_len (pa_cons (pv 1) pa_nil))) (pa_cons (pv 2) (pa_cons (pv 4) pa_nil)))))))))))

/-! summarize_rows: level 16 -/
abbrev N_summarize_rows : List Str := ["rows", "width", "place", "row"]
def t_summarize_rows (K : PySem.W.Frag) (W : WX) (sp_summarize : Sp) : TS :=
  (tRet (tTupG (tGe Tt.tb (iRng1 (tCons (tVar 1) tNil)) (gName 2) tYes (tCallS sp_summarize E00 (tCons (tLc (iSeq K (tVar 0)) (gName 3) tYes (tOp (rIx K) (tVar 3) (tVar 2)) [3]) tNil)) [2, 3])))
abbrev s_summarize_rows : Stmt := (top 7)
theorem sc_summarize_rows : FnScope N_summarize_rows ["rows", "width"] (defScope s_summarize_rows) := ⟨rfl, rfl, rfl, by decide +kernel, rfl, by decide +kernel, by decide +kernel⟩
abbrev genQ_summarize_rows : Str := (envOfC "summarize_rows" (defScope s_summarize_rows) 0 0 .none).qual ++ "<genexpr>"
theorem der_summarize_rows {sp_summarize : Sp} (T : Txt K mg) (c_summarize : Cal P w K mg base 9 "summarize" sp_summarize) {f : Addr} {cdv : Value} {A : Around} {outer : List Env} {s : Shared} {H : Hp} {E : XK} {cc Pt : Addr} (TB : LamX.TabB base mg cc Pt) (hmT : (Pt, genQ_summarize_rows) ∈ Tt.tb) (hu : ∀ p ∈ Tt.tb, p.1 = Pt → p.2 = genQ_summarize_rows) (HC : cdv = .ref cc) (hr : Room 15 (A.deeper (envOfC "summarize_rows" (defScope s_summarize_rows) s.heap.objs.size f cdv))) :
    PSs (cxOf (L2.CX P w) P w K mg base N_summarize_rows "summarize_rows" (defScope s_summarize_rows) f cdv A outer s H E) (defBody s_summarize_rows) (t_summarize_rows K (wDef E) sp_summarize) :=
  (pss_one (ps_ret (pe_tupG (k := 9 + 1) (pgen_ge (k := 9) (own := [("place", 2), ("row", 3)]) (hr.mono (by decide)) sc_summarize_rows.nd (gblk_by (N := N_summarize_rows) (sc := defScope s_summarize_rows) (by decide +kernel)) TB HC hmT hu (pi_range1 rfl T.n_range (pa_cons (pv 1) pa_nil)) (fun A s H ex C code pn hr => (pg_name (i := 2) sc_summarize_rows.nd rfl (by first | exact Or.inl rfl | exact Or.inr rfl))) (fun A s H ex C code pn hr => pts_nil) (fun A s H ex C code pn hr => (pe_cal c_summarize hr (by decide) rfl (fun σ => passE) (pa_cons (pe_lc (own := [("row", 3)]) (g := (gName 3)) rfl sc_summarize_rows.nd (pi_seq (pv 0)) (blkOk_by (own := [("row", 3)]) (by kernel_rfl)) (fun _ _ _ _ _ => (pg_name (i := 3) sc_summarize_rows.nd rfl (by first | exact Or.inl rfl | exact Or.inr rfl))) (fun _ _ _ _ _ => pts_nil) (fun _ _ _ _ _ => (pe_ix ix_seq (pv 3) (pv 2) (fun _ _ => rfl)))) pa_nil))) (fun _ => rfl)) hr rfl T.n_tuple PyProof.Rows.boot_tuple)))

/-! law: level 17 -/
abbrev N_law : List Str := ["script", "dice", "values", "known", "different", "summary", "share", "last", "value", "passed", "due", "sign", "many", "rows", "both", "one", "k"]
def t_law (K : PySem.W.Frag) (W : WX) (sp__law_bounds : Sp) (sp__law_rounds : Sp) (sp__law_values : Sp) (sp_expected_share : Sp) (sp_rank : Sp) (sp_summarize : Sp) (sp_summarize_rows : Sp) (sp_Summary : Sp) (sp_Summary_below_rows : Sp) (sp_Summary_equal_rows : Sp) (sp_Summary_range_rows : Sp) (sp_Summary_shown : Sp) : TS :=
  (tSeq (tFor (iSeq K (tCallS sp__law_rounds (WE W) (tCons (tVar 0) (tCons (tC (.int 1)) tNil)))) (gName 1) (tSeq (tAsg (tCallS sp__law_values (WE W) (tCons (tVar 1) tNil)) (gName 2))
  (tSeq (tAsg (tCB (rSortD K) (tCons (tLc (iSeq K (tVar 2)) (gName 8) (tTest (tOp rNotN (tVar 8) (tC .non))) (tCallS sp_rank E00 (tCons (tVar 8) tNil)) [8]) tNil)) (gName 3))
  (tSeq (tAsg (tLenDict K (tLc (iSeq K (tVar 3)) (gName 15) tYes (tTup (tCons (tVar 15) (tCons (tC (.int 1)) tNil))) [15])) (gName 4))
  (tSeq (tAsg (tCallS sp_summarize (WE W) (tCons (tVar 2) tNil)) (gName 5))
  (tSeq (tIfS (tTest (tOp (rNeG K) (tMeth (He.ga K "Summary") "shown" sp_Summary_shown [] XF (tVar 5) tNil) (tTup (tCons (tCB (rLenC K) (tCons (tVar 2) tNil)) (tCons (tOp rSubG (tCB (rLenC K) (tCons (tVar 2) tNil)) (tCB (rLenC K) (tCons (tVar 3) tNil))) (tCons (tVar 4) (tCons (tCallS sp__law_bounds (WE W) (tCons (tVar 3) tNil)) tNil))))))) (tRet (tC (.bl false))) tNext)
  (tSeq (tAsg (tIf (tTest (tOp (rEqG K) (tVar 4) (tC (.int 0)))) (tC (.int 0)) (tCB rLenRng3 (tCons (tC (.int 0)) (tCons (tCB (rLenC K) (tCons (tVar 3) tNil)) (tCons (tVar 4) tNil))))) (gName 6))
  (tSeq (tIfS (tTest (tOp (rNeG K) (tMeth (He.ga K "Summary") "equal_rows" sp_Summary_equal_rows [] XF (tVar 5) tNil) (tVar 6))) (tRet (tC (.bl false))) tNext)
  (tSeq (tAsg (tC (.int 0)) (gName 7))
  (tSeq (tFor (iSeq K (tIf (tOr (tTest (tOp (rEqG K) (tVar 3) (tLst tNil))) (tTest (tOp (rEqG K) (tOp (rIx K) (tOp (rIx K) (tVar 3) (tC (.int 0))) (tC (.int 0))) (tC (.int 1))))) (tLst (tCons (tOp rSubG (tC (.int 0)) (tC (.int 1))) (tCons (tC (.int 0)) (tCons (tC (.int 3)) (tCons (tC (.int 7)) (tCons (tC (.int 30)) tNil)))))) (tLst (tCons (tC (.str "")) (tCons (tC (.str "a")) (tCons (tC (.str "b")) (tCons (tC (.str "bb")) (tCons (tC (.str "z")) tNil)))))))) (gName 8) (tSeq (tAsg (tCB (rLenC K) (tCons (tLc (iSeq K (tFld K (tVar 5) "bounds")) (gName 15) (tTest (tOp (rLtH K) (tVar 15) (tCallS sp_rank E00 (tCons (tVar 8) tNil)))) (tVar 15) [15]) tNil)) (gName 9))
  (tSeq (tAsg (tIf (tTest (tOp (rEqG K) (tFld K (tVar 5) "bounds") (tTup tNil))) (tC (.int 0)) (tOp rDivG (tOp (rMulG K) (tCB (rLenC K) (tCons (tVar 3) tNil)) (tVar 9)) (tCB (rLenC K) (tCons (tFld K (tVar 5) "bounds") tNil)))) (gName 10))
  (tSeq (tIfS (tOr (tTest (tOp (rNeG K) (tMeth (He.ga K "Summary") "below_rows" sp_Summary_below_rows [] XF (tVar 5) (tCons (tVar 8) tNil)) (tVar 10))) (tOr (tTest (tOp (rLtH K) (tVar 10) (tVar 7))) (tTest (tOp (rNeG K) (tMeth (He.ga K "Summary") "range_rows" sp_Summary_range_rows [] XF (tVar 5) (tCons (tVar 8) (tCons (tC .non) tNil))) (tOp rSubG (tCB (rLenC K) (tCons (tVar 3) tNil)) (tVar 10)))))) (tRet (tC (.bl false))) tNext)
  (tSeq (tIfS (tOr (tTest (tOp (rNeG K) (tMeth (He.ga K "Summary") "range_rows" sp_Summary_range_rows [] XF (tVar 5) (tCons (tC .non) (tCons (tVar 8) tNil))) (tVar 10))) (tTest (tOp (rNeG K) (tMeth (He.ga K "Summary") "range_rows" sp_Summary_range_rows [] XF (tVar 5) (tCons (tVar 8) (tCons (tVar 8) tNil))) (tC (.int 0))))) (tRet (tC (.bl false))) tNext)
  (tSeq (tAsg (tVar 10) (gName 7))
  (tSeq (tFor (iSeq K (tLst (tCons (tC (.str "=")) (tCons (tC (.str "<")) (tCons (tC (.str "<=")) (tCons (tC (.str ">")) (tCons (tC (.str ">=")) tNil))))))) (gName 11) (tFor (iSeq K (tLst (tCons (tC (.int 0)) (tCons (tCB (rLenC K) (tCons (tVar 2) tNil)) (tCons (tC (.int 100)) tNil))))) (gName 12) (tIfS (tNot (tTest (tChain rLeG rLeG (tC (.int 0)) (tCallS sp_expected_share (WE W) (tCons (tLst (tCons (tVar 5) tNil)) (tCons (tLst (tCons (tTup (tCons (tC (.int 0)) (tCons (tVar 11) (tCons (tVar 8) tNil)))) tNil)) (tCons (tVar 12) tNil)))) (tVar 12)))) (tRet (tC (.bl false))) tNext)))
  (tIfS (tOr (tTest (tOp (rNeG K) (tCallS sp_expected_share (WE W) (tCons (tLst (tCons (tVar 5) tNil)) (tCons (tLst (tCons (tTup (tCons (tC (.int 0)) (tCons (tC (.str "=")) (tCons (tC .non) tNil)))) tNil)) (tCons (tC (.int 9)) tNil)))) (tC (.int 0)))) (tTest (tOp (rNeG K) (tCallS sp_expected_share (WE W) (tCons (tLst (tCons (tVar 5) tNil)) (tCons (tLst tNil) (tCons (tC (.int 9)) tNil)))) (tC (.int 9))))) (tRet (tC (.bl false))) tNext))))))))
  (tSeq (tAsg (tLc (iEnum K (tCons (tVar 2) tNil)) (gTup K 2 (gCons (gName 16) (gCons (gName 8) gNil))) tYes (tTup (tCons (tVar 8) (tCons (tVar 16) tNil))) [16, 8]) (gName 13))
  (tSeq (tAsg (tCallS sp_summarize_rows (WE W) (tCons (tVar 13) (tCons (tC (.int 2)) tNil))) (gName 14))
  (tSeq (tIfS (tOr (tTest (tOp (rNeG K) (tCB (rLenC K) (tCons (tVar 14) tNil)) (tC (.int 2)))) (tOr (tTest (tOp (rNeG K) (tMeth (He.ga K "Summary") "shown" sp_Summary_shown [] XF (tOp (rIx K) (tVar 14) (tC (.int 0))) tNil) (tMeth (He.ga K "Summary") "shown" sp_Summary_shown [] XF (tVar 5) tNil))) (tTest (tOp (rNeG K) (tFld K (tOp (rIx K) (tVar 14) (tC (.int 1))) "different") (tCB (rLenC K) (tCons (tVar 2) tNil)))))) (tRet (tC (.bl false))) tNext)
  (tIfS (tAnd (tTest (tOp rGtG (tCB (rLenC K) (tCons (tVar 2) tNil)) (tC (.int 0)))) (tTest (tOp (rNeG K) (tCallS sp_expected_share (WE W) (tCons (tLst (tCons (tVar 5) tNil)) (tCons (tLst (tCons (tTup (tCons (tC (.int 0)) (tCons (tC (.str "=")) (tCons (tC (.int 3)) tNil)))) tNil)) (tCons (tCB (rLenC K) (tCons (tVar 2) tNil)) tNil)))) (tCB rMin2 (tCons (tVar 6) (tCons (tCB (rLenC K) (tCons (tVar 2) tNil)) tNil)))))) (tRet (tC (.bl false))) tNext))))))))))))))
  (tRet (tAndV (tOp (rEqG K) (tMeth (He.ga K "Summary") "equal_rows" sp_Summary_equal_rows [] XF (tMake (He.ga K "Summary") sp_Summary [] XF (tCons (tC (.int 4)) (tCons (tC (.int 1)) (tCons (tC (.int 3)) (tCons (tTup (tCons (tTup (tCons (tC (.int 1)) (tCons (tC (.int 2)) tNil))) tNil)) tNil))))) tNil) (tC (.int 1))) (tOp (rEqG K) (tMeth (He.ga K "Summary") "below_rows" sp_Summary_below_rows [] XF (tMake (He.ga K "Summary") sp_Summary [] XF (tCons (tC (.int 0)) (tCons (tC (.int 0)) (tCons (tC (.int 0)) (tCons (tTup tNil) tNil))))) (tCons (tC (.int 5)) tNil)) (tC (.int 0))))))
abbrev s_law : Stmt := (top 15)
theorem sc_law : FnScope N_law ["script"] (defScope s_law) := ⟨rfl, rfl, rfl, by decide +kernel, rfl, by decide +kernel, by decide +kernel⟩
theorem der_law {sp__law_bounds : Sp} {sp__law_rounds : Sp} {sp__law_values : Sp} {sp_expected_share : Sp} {sp_rank : Sp} {sp_summarize : Sp} {sp_summarize_rows : Sp} {sp_Summary : Sp} {sp_Summary_below_rows : Sp} {sp_Summary_equal_rows : Sp} {sp_Summary_range_rows : Sp} {sp_Summary_shown : Sp} (T : Txt K mg) (c__law_bounds : Cal P w K mg base 1 "_law_bounds" sp__law_bounds) (c__law_rounds : Cal P w K mg base 2 "_law_rounds" sp__law_rounds) (c__law_values : Cal P w K mg base 2 "_law_values" sp__law_values) (c_expected_share : Cal P w K mg base 5 "expected_share" sp_expected_share) (c_rank : Cal P w K mg base 2 "rank" sp_rank) (c_summarize : Cal P w K mg base 9 "summarize" sp_summarize) (c_summarize_rows : Cal P w K mg base 16 "summarize_rows" sp_summarize_rows) (n_Summary : New P w K mg base 1 "Summary" (He.ga K "Summary") sp_Summary) (m_Summary_below_rows : Mth P w K mg base 3 (He.ga K "Summary") "below_rows" sp_Summary_below_rows) (m_Summary_equal_rows : Mth P w K mg base 1 (He.ga K "Summary") "equal_rows" sp_Summary_equal_rows) (m_Summary_range_rows : Mth P w K mg base 4 (He.ga K "Summary") "range_rows" sp_Summary_range_rows) (m_Summary_shown : Mth P w K mg base 1 (He.ga K "Summary") "shown" sp_Summary_shown) {f : Addr} {cdv : Value} {A : Around} {outer : List Env} {s : Shared} {H : Hp} {E : XK} (hr : Room 16 (A.deeper (envOfC "law" (defScope s_law) s.heap.objs.size f cdv))) :
    PSs (cxOf (L2.CX P w) P w K mg base N_law "law" (defScope s_law) f cdv A outer s H E) (defBody s_law) (t_law K (wDef E) sp__law_bounds sp__law_rounds sp__law_values sp_expected_share sp_rank sp_summarize sp_summarize_rows sp_Summary sp_Summary_below_rows sp_Summary_equal_rows sp_Summary_range_rows sp_Summary_shown) :=
  (pss_cons (ps_for (passes_of rfl) rfl (pi_seq (pe_cal c__law_rounds hr (by decide) rfl (fun σ => passAt (takes_of rfl rfl rfl rfl) σ) (pa_cons (pv 0) (pa_cons pe_int pa_nil)))) (pg_name (i := 1) sc_law.nd rfl (by first | exact Or.inl rfl | exact Or.inr rfl)) (pss_cons (ps_set (i := 2) sc_law.nd rfl (by first | exact Or.inl rfl | exact Or.inr rfl) (pe_cal c__law_values hr (by decide) rfl (fun σ => passAt (takes_of rfl rfl rfl rfl) σ) (pa_cons (pv 1) pa_nil)))
  (pss_cons (ps_set (i := 3) sc_law.nd rfl (by first | exact Or.inl rfl | exact Or.inr rfl) (pe_callB (call_sortD hr.units) rfl T.n_sorted PyProof.Rows.boot_sorted (pa_cons (pe_lc (own := [("value", 8)]) (g := (gName 8)) rfl sc_law.nd (pi_seq (pv 2)) (blkOk_by (N := N_law) (sc := defScope s_law) (own := [("value", 8)]) (by decide +kernel)) (fun _ _ _ _ _ => (pg_name (i := 8) sc_law.nd rfl (by first | exact Or.inl rfl | exact Or.inr rfl))) (fun _ _ _ _ _ => (pts_one (pt_cmpR op_notNG (pv 8) pe_non (nomark _)))) (fun _ _ _ _ _ => (pe_cal c_rank hr (by decide) rfl (fun σ => passE) (pa_cons (pv 8) pa_nil)))) pa_nil)))
  (pss_cons (ps_set (i := 4) sc_law.nd rfl (by first | exact Or.inl rfl | exact Or.inr rfl) (pe_lenDict rfl hr.units (pe_lc (own := [("one", 15)]) (g := (gName 15)) rfl sc_law.nd (pi_seq (pv 3)) (blkOk_by (N := N_law) (sc := defScope s_law) (own := [("one", 15)]) (by decide +kernel)) (fun _ _ _ _ _ => (pg_name (i := 15) sc_law.nd rfl (by first | exact Or.inl rfl | exact Or.inr rfl))) (fun _ _ _ _ _ => pts_nil) (fun _ _ _ _ _ => (pe_tup (pa_cons (pv 15) (pa_cons pe_int pa_nil))))) rfl T.n_len rfl T.n_dict))
  (pss_cons (ps_set (i := 5) sc_law.nd rfl (by first | exact Or.inl rfl | exact Or.inr rfl) (pe_cal c_summarize hr (by decide) rfl (fun σ => passAt (takes_of rfl rfl rfl rfl) σ) (pa_cons (pv 2) pa_nil)))
  (pss_cons (ps_if (pt_cmpR (op_neG hr.units) (pe_mth0 m_Summary_shown hr (by decide) (pv 5)) (pe_tup (pa_cons (pe_callB call_lenG rfl T.n_len boot_len (pa_cons (pv 2) pa_nil)) (pa_cons (pe_op op_subG (pe_callB call_lenG rfl T.n_len boot_len (pa_cons (pv 2) pa_nil)) (pe_callB call_lenG rfl T.n_len boot_len (pa_cons (pv 3) pa_nil))) (pa_cons (pv 4) (pa_cons (pe_cal c__law_bounds hr (by decide) rfl (fun σ => passAt (takes_of rfl rfl rfl rfl) σ) (pa_cons (pv 3) pa_nil)) pa_nil))))) (nomark _)) (pss_one (ps_ret pe_bl)) pss_nil)
  (pss_cons (ps_set (i := 6) sc_law.nd rfl (by first | exact Or.inl rfl | exact Or.inr rfl) (pe_ifExp (pt_cmpR (op_eqG hr.units) (pv 4) pe_int (nomark _)) pe_int (pe_lenRng3 rfl T.n_len rfl T.n_range (pa_cons pe_int (pa_cons (pe_callB call_lenG rfl T.n_len boot_len (pa_cons (pv 3) pa_nil)) (pa_cons (pv 4) pa_nil))))))
  (pss_cons (ps_if (pt_cmpR (op_neG hr.units) (pe_mth0 m_Summary_equal_rows hr (by decide) (pv 5)) (pv 6) (nomark _)) (pss_one (ps_ret pe_bl)) pss_nil)
  (pss_cons (ps_set (i := 7) sc_law.nd rfl (by first | exact Or.inl rfl | exact Or.inr rfl) pe_int)
  (pss_cons (ps_for (passes_of rfl) rfl (pi_seq (pe_ifExp (PW.pt (pw_or (pt_cmpR (op_eqG hr.units) (pv 3) (pe_lst pa_nil) (nomark _)) (pw_or1 (pt_cmpR (op_eqG hr.units) (pe_ix ix_seq (pe_ix ix_seq (pv 3) pe_int (fun _ _ => rfl)) pe_int (fun _ _ => rfl)) pe_int (nomark _))))) (pe_lst (pa_cons (pe_op op_subG pe_int pe_int) (pa_cons pe_int (pa_cons pe_int (pa_cons pe_int (pa_cons pe_int pa_nil)))))) (pe_lst (pa_cons pe_str (pa_cons pe_str (pa_cons pe_str (pa_cons pe_str (pa_cons pe_str pa_nil)))))))) (pg_name (i := 8) sc_law.nd rfl (by first | exact Or.inl rfl | exact Or.inr rfl)) (pss_cons (ps_set (i := 9) sc_law.nd rfl (by first | exact Or.inl rfl | exact Or.inr rfl) (pe_callB call_lenG rfl T.n_len boot_len (pa_cons (pe_lc (own := [("one", 15)]) (g := (gName 15)) rfl sc_law.nd (pi_seq (pe_fld (pv 5) rfl)) (blkOk_by (N := N_law) (sc := defScope s_law) (own := [("one", 15)]) (by decide +kernel)) (fun _ _ _ _ _ => (pg_name (i := 15) sc_law.nd rfl (by first | exact Or.inl rfl | exact Or.inr rfl))) (fun _ _ _ _ _ => (pts_one (pt_cmpR (op_ltH hr.units) (pv 15) (pe_cal c_rank hr (by decide) rfl (fun σ => passE) (pa_cons (pv 8) pa_nil)) (nomark _)))) (fun _ _ _ _ _ => (pv 15))) pa_nil)))
  (pss_cons (ps_set (i := 10) sc_law.nd rfl (by first | exact Or.inl rfl | exact Or.inr rfl) (pe_ifExp (pt_cmpR (op_eqG hr.units) (pe_fld (pv 5) rfl) (pe_tup pa_nil) (nomark _)) pe_int (pe_op op_divG (pe_op op_mulG (pe_callB call_lenG rfl T.n_len boot_len (pa_cons (pv 3) pa_nil)) (pv 9)) (pe_callB call_lenG rfl T.n_len boot_len (pa_cons (pe_fld (pv 5) rfl) pa_nil)))))
  (pss_cons (ps_if (PW.pt (pw_or (pt_cmpR (op_neG hr.units) (pe_mthA m_Summary_below_rows hr (by decide) (pv 5) (pa_cons (pv 8) pa_nil)) (pv 10) (nomark _)) (pw_or (pt_cmpR (op_ltH hr.units) (pv 10) (pv 7) (nomark _)) (pw_or1 (pt_cmpR (op_neG hr.units) (pe_mthA m_Summary_range_rows hr (by decide) (pv 5) (pa_cons (pv 8) (pa_cons pe_non pa_nil))) (pe_op op_subG (pe_callB call_lenG rfl T.n_len boot_len (pa_cons (pv 3) pa_nil)) (pv 10)) (nomark _)))))) (pss_one (ps_ret pe_bl)) pss_nil)
  (pss_cons (ps_if (PW.pt (pw_or (pt_cmpR (op_neG hr.units) (pe_mthA m_Summary_range_rows hr (by decide) (pv 5) (pa_cons pe_non (pa_cons (pv 8) pa_nil))) (pv 10) (nomark _)) (pw_or1 (pt_cmpR (op_neG hr.units) (pe_mthA m_Summary_range_rows hr (by decide) (pv 5) (pa_cons (pv 8) (pa_cons (pv 8) pa_nil))) pe_int (nomark _))))) (pss_one (ps_ret pe_bl)) pss_nil)
  (pss_cons (ps_set (i := 7) sc_law.nd rfl (by first | exact Or.inl rfl | exact Or.inr rfl) (pv 10))
  (pss_cons (ps_for (passes_of rfl) rfl (pi_seq (pe_lst (pa_cons pe_str (pa_cons pe_str (pa_cons pe_str (pa_cons pe_str (pa_cons pe_str pa_nil))))))) (pg_name (i := 11) sc_law.nd rfl (by first | exact Or.inl rfl | exact Or.inr rfl)) (pss_one (ps_for (passes_of rfl) rfl (pi_seq (pe_lst (pa_cons pe_int (pa_cons (pe_callB call_lenG rfl T.n_len boot_len (pa_cons (pv 2) pa_nil)) (pa_cons pe_int pa_nil))))) (pg_name (i := 12) sc_law.nd rfl (by first | exact Or.inl rfl | exact Or.inr rfl)) (pss_one (ps_if (pt_not (pt_chain op_leG op_leG pe_int (pe_cal c_expected_share hr (by decide) rfl (fun σ => passAt (takes_of rfl rfl rfl rfl) σ) (pa_cons (pe_lst (pa_cons (pv 5) pa_nil)) (pa_cons (pe_lst (pa_cons (pe_tup (pa_cons pe_int (pa_cons (pv 11) (pa_cons (pv 8) pa_nil)))) pa_nil)) (pa_cons (pv 12) pa_nil)))) (pv 12))) (pss_one (ps_ret pe_bl)) pss_nil)))))
  (pss_one (ps_if (PW.pt (pw_or (pt_cmpR (op_neG hr.units) (pe_cal c_expected_share hr (by decide) rfl (fun σ => passAt (takes_of rfl rfl rfl rfl) σ) (pa_cons (pe_lst (pa_cons (pv 5) pa_nil)) (pa_cons (pe_lst (pa_cons (pe_tup (pa_cons pe_int (pa_cons pe_str (pa_cons pe_non pa_nil)))) pa_nil)) (pa_cons pe_int pa_nil)))) pe_int (nomark _)) (pw_or1 (pt_cmpR (op_neG hr.units) (pe_cal c_expected_share hr (by decide) rfl (fun σ => passAt (takes_of rfl rfl rfl rfl) σ) (pa_cons (pe_lst (pa_cons (pv 5) pa_nil)) (pa_cons (pe_lst pa_nil) (pa_cons pe_int pa_nil)))) pe_int (nomark _))))) (pss_one (ps_ret pe_bl)) pss_nil)))))))))
  (pss_cons (ps_setLc (i := 13) (own := [("k", 16), ("value", 8)]) (g := (gTup K 2 (gCons (gName 16) (gCons (gName 8) gNil)))) rfl sc_law.nd rfl rfl (sw_true rfl rfl rfl (by decide +kernel)) (pi_enum rfl T.n_enumerate (pa_cons (pv 2) pa_nil)) (blkOk_by (N := N_law) (sc := defScope s_law) (own := [("k", 16), ("value", 8)]) (by decide +kernel)) (fun _ _ _ _ _ => (pg_tup rfl (pgs_cons (pg_name (i := 16) sc_law.nd rfl (by first | exact Or.inl rfl | exact Or.inr rfl)) (pgs_cons (pg_name (i := 8) sc_law.nd rfl (by first | exact Or.inl rfl | exact Or.inr rfl)) pgs_nil)))) (fun _ _ _ _ _ => pts_nil) (fun _ _ _ _ _ => (pe_tup (pa_cons (pv 8) (pa_cons (pv 16) pa_nil)))))
  (pss_cons (ps_set (i := 14) sc_law.nd rfl (by first | exact Or.inl rfl | exact Or.inr rfl) (pe_cal c_summarize_rows hr (by decide) rfl (fun σ => passAt (takes_of rfl rfl rfl rfl) σ) (pa_cons (pv 13) (pa_cons pe_int pa_nil))))
  (pss_cons (ps_if (PW.pt (pw_or (pt_cmpR (op_neG hr.units) (pe_callB call_lenG rfl T.n_len boot_len (pa_cons (pv 14) pa_nil)) pe_int (nomark _)) (pw_or (pt_cmpR (op_neG hr.units) (pe_mth0 m_Summary_shown hr (by decide) (pe_ix ix_seq (pv 14) pe_int (fun _ _ => rfl))) (pe_mth0 m_Summary_shown hr (by decide) (pv 5)) (nomark _)) (pw_or1 (pt_cmpR (op_neG hr.units) (pe_fld (pe_ix ix_seq (pv 14) pe_int (fun _ _ => rfl)) rfl) (pe_callB call_lenG rfl T.n_len boot_len (pa_cons (pv 2) pa_nil)) (nomark _)))))) (pss_one (ps_ret pe_bl)) pss_nil)
  (pss_one (ps_if (PW.pt (pw_and (pt_cmpR op_gtG (pe_callB call_lenG rfl T.n_len boot_len (pa_cons (pv 2) pa_nil)) pe_int (nomark _)) (pw_and1 (pt_cmpR (op_neG hr.units) (pe_cal c_expected_share hr (by decide) rfl (fun σ => passAt (takes_of rfl rfl rfl rfl) σ) (pa_cons (pe_lst (pa_cons (pv 5) pa_nil)) (pa_cons (pe_lst (pa_cons (pe_tup (pa_cons pe_int (pa_cons pe_str (pa_cons pe_int pa_nil)))) pa_nil)) (pa_cons (pe_callB call_lenG rfl T.n_len boot_len (pa_cons (pv 2) pa_nil)) pa_nil)))) (pe_callB (call_minG rfl) rfl T.n_min PyProof.Rows.boot_min (pa_cons (pv 6) (pa_cons (pe_callB call_lenG rfl T.n_len boot_len (pa_cons (pv 2) pa_nil)) pa_nil))) (nomark _))))) (pss_one (ps_ret pe_bl)) pss_nil)))))))))))))))
  (pss_one (ps_ret (pe_and (pe_cmpR (op_eqG hr.units) (pe_mth0 m_Summary_equal_rows hr (by decide) (pe_new n_Summary hr (by decide) rfl (pa_cons pe_int (pa_cons pe_int (pa_cons pe_int (pa_cons (pe_tup (pa_cons (pe_tup (pa_cons pe_int (pa_cons pe_int pa_nil))) pa_nil)) pa_nil)))))) pe_int (nomark _)) (pe_one (pe_cmpR (op_eqG hr.units) (pe_mthA m_Summary_below_rows hr (by decide) (pe_new n_Summary hr (by decide) rfl (pa_cons pe_int (pa_cons pe_int (pa_cons pe_int (pa_cons (pe_tup pa_nil) pa_nil))))) (pa_cons pe_int pa_nil)) pe_int (nomark _)))))))

def b_law (K : PySem.W.Frag) (W : WX) (sp__law_bounds : Sp) (sp__law_rounds : Sp) (sp__law_values : Sp) (sp_expected_share : Sp) (sp_rank : Sp) (sp_summarize : Sp) (sp_summarize_rows : Sp) (sp_Summary : Sp) (sp_Summary_below_rows : Sp) (sp_Summary_equal_rows : Sp) (sp_Summary_range_rows : Sp) (sp_Summary_shown : Sp) : TS :=
  (tSeq (tAsg (tCallS sp__law_values (WE W) (tCons (tVar 1) tNil)) (gName 2))
  (tSeq (tAsg (tCB (rSortD K) (tCons (tLc (iSeq K (tVar 2)) (gName 8) (tTest (tOp rNotN (tVar 8) (tC .non))) (tCallS sp_rank E00 (tCons (tVar 8) tNil)) [8]) tNil)) (gName 3))
  (tSeq (tAsg (tLenDict K (tLc (iSeq K (tVar 3)) (gName 15) tYes (tTup (tCons (tVar 15) (tCons (tC (.int 1)) tNil))) [15])) (gName 4))
  (tSeq (tAsg (tCallS sp_summarize (WE W) (tCons (tVar 2) tNil)) (gName 5))
  (tSeq (tIfS (tTest (tOp (rNeG K) (tMeth (He.ga K "Summary") "shown" sp_Summary_shown [] XF (tVar 5) tNil) (tTup (tCons (tCB (rLenC K) (tCons (tVar 2) tNil)) (tCons (tOp rSubG (tCB (rLenC K) (tCons (tVar 2) tNil)) (tCB (rLenC K) (tCons (tVar 3) tNil))) (tCons (tVar 4) (tCons (tCallS sp__law_bounds (WE W) (tCons (tVar 3) tNil)) tNil))))))) (tRet (tC (.bl false))) tNext)
  (tSeq (tAsg (tIf (tTest (tOp (rEqG K) (tVar 4) (tC (.int 0)))) (tC (.int 0)) (tCB rLenRng3 (tCons (tC (.int 0)) (tCons (tCB (rLenC K) (tCons (tVar 3) tNil)) (tCons (tVar 4) tNil))))) (gName 6))
  (tSeq (tIfS (tTest (tOp (rNeG K) (tMeth (He.ga K "Summary") "equal_rows" sp_Summary_equal_rows [] XF (tVar 5) tNil) (tVar 6))) (tRet (tC (.bl false))) tNext)
  (tSeq (tAsg (tC (.int 0)) (gName 7))
  (tSeq (tFor (iSeq K (tIf (tOr (tTest (tOp (rEqG K) (tVar 3) (tLst tNil))) (tTest (tOp (rEqG K) (tOp (rIx K) (tOp (rIx K) (tVar 3) (tC (.int 0))) (tC (.int 0))) (tC (.int 1))))) (tLst (tCons (tOp rSubG (tC (.int 0)) (tC (.int 1))) (tCons (tC (.int 0)) (tCons (tC (.int 3)) (tCons (tC (.int 7)) (tCons (tC (.int 30)) tNil)))))) (tLst (tCons (tC (.str "")) (tCons (tC (.str "a")) (tCons (tC (.str "b")) (tCons (tC (.str "bb")) (tCons (tC (.str "z")) tNil)))))))) (gName 8) (tSeq (tAsg (tCB (rLenC K) (tCons (tLc (iSeq K (tFld K (tVar 5) "bounds")) (gName 15) (tTest (tOp (rLtH K) (tVar 15) (tCallS sp_rank E00 (tCons (tVar 8) tNil)))) (tVar 15) [15]) tNil)) (gName 9))
  (tSeq (tAsg (tIf (tTest (tOp (rEqG K) (tFld K (tVar 5) "bounds") (tTup tNil))) (tC (.int 0)) (tOp rDivG (tOp (rMulG K) (tCB (rLenC K) (tCons (tVar 3) tNil)) (tVar 9)) (tCB (rLenC K) (tCons (tFld K (tVar 5) "bounds") tNil)))) (gName 10))
  (tSeq (tIfS (tOr (tTest (tOp (rNeG K) (tMeth (He.ga K "Summary") "below_rows" sp_Summary_below_rows [] XF (tVar 5) (tCons (tVar 8) tNil)) (tVar 10))) (tOr (tTest (tOp (rLtH K) (tVar 10) (tVar 7))) (tTest (tOp (rNeG K) (tMeth (He.ga K "Summary") "range_rows" sp_Summary_range_rows [] XF (tVar 5) (tCons (tVar 8) (tCons (tC .non) tNil))) (tOp rSubG (tCB (rLenC K) (tCons (tVar 3) tNil)) (tVar 10)))))) (tRet (tC (.bl false))) tNext)
  (tSeq (tIfS (tOr (tTest (tOp (rNeG K) (tMeth (He.ga K "Summary") "range_rows" sp_Summary_range_rows [] XF (tVar 5) (tCons (tC .non) (tCons (tVar 8) tNil))) (tVar 10))) (tTest (tOp (rNeG K) (tMeth (He.ga K "Summary") "range_rows" sp_Summary_range_rows [] XF (tVar 5) (tCons (tVar 8) (tCons (tVar 8) tNil))) (tC (.int 0))))) (tRet (tC (.bl false))) tNext)
  (tSeq (tAsg (tVar 10) (gName 7))
  (tSeq (tFor (iSeq K (tLst (tCons (tC (.str "=")) (tCons (tC (.str "<")) (tCons (tC (.str "<=")) (tCons (tC (.str ">")) (tCons (tC (.str ">=")) tNil))))))) (gName 11) (tFor (iSeq K (tLst (tCons (tC (.int 0)) (tCons (tCB (rLenC K) (tCons (tVar 2) tNil)) (tCons (tC (.int 100)) tNil))))) (gName 12) (tIfS (tNot (tTest (tChain rLeG rLeG (tC (.int 0)) (tCallS sp_expected_share (WE W) (tCons (tLst (tCons (tVar 5) tNil)) (tCons (tLst (tCons (tTup (tCons (tC (.int 0)) (tCons (tVar 11) (tCons (tVar 8) tNil)))) tNil)) (tCons (tVar 12) tNil)))) (tVar 12)))) (tRet (tC (.bl false))) tNext)))
  (tIfS (tOr (tTest (tOp (rNeG K) (tCallS sp_expected_share (WE W) (tCons (tLst (tCons (tVar 5) tNil)) (tCons (tLst (tCons (tTup (tCons (tC (.int 0)) (tCons (tC (.str "=")) (tCons (tC .non) tNil)))) tNil)) (tCons (tC (.int 9)) tNil)))) (tC (.int 0)))) (tTest (tOp (rNeG K) (tCallS sp_expected_share (WE W) (tCons (tLst (tCons (tVar 5) tNil)) (tCons (tLst tNil) (tCons (tC (.int 9)) tNil)))) (tC (.int 9))))) (tRet (tC (.bl false))) tNext))))))))
  (tSeq (tAsg (tLc (iEnum K (tCons (tVar 2) tNil)) (gTup K 2 (gCons (gName 16) (gCons (gName 8) gNil))) tYes (tTup (tCons (tVar 8) (tCons (tVar 16) tNil))) [16, 8]) (gName 13))
  (tSeq (tAsg (tCallS sp_summarize_rows (WE W) (tCons (tVar 13) (tCons (tC (.int 2)) tNil))) (gName 14))
  (tSeq (tIfS (tOr (tTest (tOp (rNeG K) (tCB (rLenC K) (tCons (tVar 14) tNil)) (tC (.int 2)))) (tOr (tTest (tOp (rNeG K) (tMeth (He.ga K "Summary") "shown" sp_Summary_shown [] XF (tOp (rIx K) (tVar 14) (tC (.int 0))) tNil) (tMeth (He.ga K "Summary") "shown" sp_Summary_shown [] XF (tVar 5) tNil))) (tTest (tOp (rNeG K) (tFld K (tOp (rIx K) (tVar 14) (tC (.int 1))) "different") (tCB (rLenC K) (tCons (tVar 2) tNil)))))) (tRet (tC (.bl false))) tNext)
  (tIfS (tAnd (tTest (tOp rGtG (tCB (rLenC K) (tCons (tVar 2) tNil)) (tC (.int 0)))) (tTest (tOp (rNeG K) (tCallS sp_expected_share (WE W) (tCons (tLst (tCons (tVar 5) tNil)) (tCons (tLst (tCons (tTup (tCons (tC (.int 0)) (tCons (tC (.str "=")) (tCons (tC (.int 3)) tNil)))) tNil)) (tCons (tCB (rLenC K) (tCons (tVar 2) tNil)) tNil)))) (tCB rMin2 (tCons (tVar 6) (tCons (tCB (rLenC K) (tCons (tVar 2) tNil)) tNil)))))) (tRet (tC (.bl false))) tNext)))))))))))))
def f_law (K : PySem.W.Frag) (W : WX) (sp__law_bounds : Sp) (sp__law_rounds : Sp) (sp__law_values : Sp) (sp_expected_share : Sp) (sp_rank : Sp) (sp_summarize : Sp) (sp_summarize_rows : Sp) (sp_Summary : Sp) (sp_Summary_below_rows : Sp) (sp_Summary_equal_rows : Sp) (sp_Summary_range_rows : Sp) (sp_Summary_shown : Sp) : TE :=
  (tAndV (tOp (rEqG K) (tMeth (He.ga K "Summary") "equal_rows" sp_Summary_equal_rows [] XF (tMake (He.ga K "Summary") sp_Summary [] XF (tCons (tC (.int 4)) (tCons (tC (.int 1)) (tCons (tC (.int 3)) (tCons (tTup (tCons (tTup (tCons (tC (.int 1)) (tCons (tC (.int 2)) tNil))) tNil)) tNil))))) tNil) (tC (.int 1))) (tOp (rEqG K) (tMeth (He.ga K "Summary") "below_rows" sp_Summary_below_rows [] XF (tMake (He.ga K "Summary") sp_Summary [] XF (tCons (tC (.int 0)) (tCons (tC (.int 0)) (tCons (tC (.int 0)) (tCons (tTup tNil) tNil))))) (tCons (tC (.int 5)) tNil)) (tC (.int 0))))

end
end K28


namespace K28
open PySem PySem.Spec PyProof.Rows L2 Ts
section
variable [Tt] {K : PySem.W.Frag}
def seqD (l : Bool) (xs : List D) : D := if l = true then .lst xs else .tup xs
def initPre (ds : List D) : Prop := ∃ (a b c : D) (l : Bool) (xs : List D), ds = [a, b, c, seqD l xs]
def initF (ds : List D) : List (Str × D) := match ds with
  | [a, b, c, .lst xs] => [("rows", a), ("nulls", b), ("different", c), ("bounds", .tup xs)]
  | [a, b, c, .tup xs] => [("rows", a), ("nulls", b), ("different", c), ("bounds", .tup xs)]
  | _ => []
theorem initF_eq (a b c : D) (l : Bool) (xs : List D) : initF [a, b, c, seqD l xs] = ([("rows", a), ("nulls", b), ("different", c), ("bounds", .tup xs)] : List (Str × D)) := by cases l <;> rfl
theorem nt_back {x dx C : Addr} {vs : List (Str × V)} {Ha Hb : Hp} {a : Addr} (hb : Hb x = some (.ins C dx vs)) (kp : ∀ a o, a ≠ x → Ha a = some o → (∀ ps, o ≠ HO.tbl ps) → Hb a = some o) (nt : Nt Hb a) : Nt Ha a := fun o e => Classical.byContradiction fun n => by
  have np : ∀ ps, o ≠ HO.tbl ps := fun ps z => n ⟨ps, z⟩
  by_cases z : a = x
  · rw [z] at nt
    obtain ⟨ps, q⟩ := nt _ hb
    cases q
  · obtain ⟨ps, q⟩ := nt _ (kp a o z e np)
    exact np ps q
theorem init_ok {C : Addr} (c : Cls K C) (n1 : NoAttr K C "rows") (n2 : NoAttr K C "nulls") (n3 : NoAttr K C "different") (n4 : NoAttr K C "bounds") :
    ∀ vs H Q E, spNew K C initPre initF vs H Q E → t_Summary___init__ K (wDef E) { nx := fun _ H' => Q .non H', rt := Q } (L2.start N_Summary___init__ vs) H := by
  rintro vs H Q E ⟨G, x, dx, ws, ds, rfl, hx, nG, ex, tb, r, ⟨a, b, d, l, xs, rfl⟩, k0⟩
  cases r with
  | cons r1 r =>
    cases r with
    | cons r2 r =>
      cases r with
      | cons r3 r =>
        cases r with
        | cons r4 r =>
          cases r
          rename_i w1 w2 w3 w4
          have no : ∀ (i : Nat) (bs : List D), ([.no, .dat a, .dat b, .dat d, .dat (seqD l xs)] : En)[i]? ≠ some (Sl.own bs) := fun i bs e => by
            match i with
            | 0 => cases e
            | 1 => cases e
            | 2 => cases e
            | 3 => cases e
            | 4 => cases e
            | i + 5 => cases e
          have rs : Rs K none H G H (L2.start N_Summary___init__ [V.ref x, w1, w2, w3, w4]) [.no, .dat a, .dat b, .dat d, .dat (seqD l xs)] := by
            refine ⟨ex, rfl, fun a e => (nomatch e), tb, fun i d e => ?_, fun i bs e => absurd e (no i bs), fun i j bs es p e => absurd e (no i bs), fun i e => ?_⟩
            · match i with
              | 0 => cases e
              | 1 => cases e; exact ⟨w1, rfl, r1⟩
              | 2 => cases e; exact ⟨w2, rfl, r2⟩
              | 3 => cases e; exact ⟨w3, rfl, r3⟩
              | 4 => cases e; exact ⟨w4, rfl, r4⟩
              | i + 5 => cases e
            · match i with
              | 0 => cases e
              | 1 => cases e
              | 2 => cases e
              | 3 => cases e
              | 4 => cases e
              | i + 5 => cases e
          have hb : Ev K (fun _ => E) (tCB (rTupO K) (tCons (tVar 4) tNil)) [.no, .dat a, .dat b, .dat d, .dat (seqD l xs)] (· = .tup xs) fun _ => False := by
            cases l with
            | true => exact ev_tupL (ev_var rfl)
            | false => exact ev_tupT (ev_var rfl)
          refine sfld_step (E := fun _ => E) (d := a) rfl hx nG rs no (ev_var rfl) c n1 (by decide) fun G1 H1 u1 e1 nw1 rs1 nx1 kp1 hx1 ru1 => ?_
          refine sfld_step (E := fun _ => E) (d := b) rfl hx1 nx1 rs1 no (ev_var rfl) c n2 (by show 1 < 1000; decide) fun G2 H2 u2 e2 nw2 rs2 nx2 kp2 hx2 ru2 => ?_
          refine sfld_step (E := fun _ => E) (d := d) rfl hx2 nx2 rs2 no (ev_var rfl) c n3 (by show 2 < 1000; decide) fun G3 H3 u3 e3 nw3 rs3 nx3 kp3 hx3 ru3 => ?_
          refine sfld_step (E := fun _ => E) (d := .tup xs) rfl hx3 nx3 rs3 no hb c n4 (by show 3 < 1000; decide) fun G4 H4 u4 e4 nw4 rs4 nx4 kp4 hx4 ru4 => ?_
          refine k0 G4 H4 dx _ (e1.trans (e2.trans (e3.trans e4))) ?_ rs4.sub (fun a o ne e nt => kp4 a o ne (kp3 a o ne (kp2 a o ne (kp1 a o ne e nt) nt) nt) nt) rs4.tb nx4 hx4 ?_
          · intro a o e
            rcases nw4 a o e with e | e
            · rcases nw3 a o e with e | e
              · rcases nw2 a o e with e | e
                · exact nw1 a o e
                · exact .inr (nt_back hx1 kp1 e)
              · exact .inr (nt_back hx1 kp1 (nt_back hx2 kp2 e))
            · exact .inr (nt_back hx1 kp1 (nt_back hx2 kp2 (nt_back hx3 kp3 e)))
          · rw [initF_eq]
            exact .cons (ru1.ex (e2.trans (e3.trans e4))) (.cons (ru2.ex (e3.trans e4)) (.cons (ru3.ex e4) (.cons ru4 .nil)))
end
end K28


namespace K28
open PySem PySem.Spec PyProof.Rows L2 Ts
section
variable [Tt] {K : PySem.W.Frag} {W : WX}
/-- what is known of the class Summary -/
structure SC (K : PySem.W.Frag) : Prop where
  c : Cls K (He.ga K "Summary")
  n1 : NoAttr K (He.ga K "Summary") "rows"
  n2 : NoAttr K (He.ga K "Summary") "nulls"
  n3 : NoAttr K (He.ga K "Summary") "different"
  n4 : NoAttr K (He.ga K "Summary") "bounds"
abbrev smF (s : Sm) : List (Str × D) := [("rows", .int (s.rows : Nat)), ("nulls", .int (s.nulls : Nat)), ("different", .int (s.diff : Nat)), ("bounds", .tup (s.bs.map (rk s.k)))]
abbrev smD (K : PySem.W.Frag) (s : Sm) : D := .obj (He.ga K "Summary") (smF s)
structure SmOk (s : Sm) : Prop where
  n : s.nulls ≤ s.rows
  r : s.rows ≤ 1000
  d : s.diff ≤ 1000
  b : s.bs.length ≤ 1000
  v : ∀ b ∈ s.bs, okV s.k b
section
variable {E : L2.St → XK} {Δ : En} {X : Addr → Prop} {te tf : TE}
theorem ev_rows (sc : SC K) {s : Sm} (h : Ev K E te Δ (· = smD K s) X) : Ev K E (tFld K te "rows") Δ (· = .int (s.rows : Nat)) X := ev_fld h sc.c sc.n1 rfl
theorem ev_nulls (sc : SC K) {s : Sm} (h : Ev K E te Δ (· = smD K s) X) : Ev K E (tFld K te "nulls") Δ (· = .int (s.nulls : Nat)) X := ev_fld h sc.c sc.n2 rfl
theorem ev_diff (sc : SC K) {s : Sm} (h : Ev K E te Δ (· = smD K s) X) : Ev K E (tFld K te "different") Δ (· = .int (s.diff : Nat)) X := ev_fld h sc.c sc.n3 rfl
theorem ev_bs (sc : SC K) {s : Sm} (h : Ev K E te Δ (· = smD K s) X) : Ev K E (tFld K te "bounds") Δ (· = .tup (s.bs.map (rk s.k))) X := ev_fld h sc.c sc.n4 rfl
theorem bs_ok {k : Bool} {bs : List Int} (h : ∀ b ∈ bs, okV k b) : (D.tup (bs.map (rk k))).ok = true := okN_ok (n := 2) (by
  show (bs.map (rk k)).all (okN 1) = true
  rw [List.all_map, List.all_eq_true]
  exact fun b hb => rk_ok (h b hb))
theorem bs_nil {k : Bool} {bs : List Int} : PyData.eqv (D.tup (bs.map (rk k))).py (D.tup []).py = decide (bs = []) := by
  cases bs with
  | nil => rfl
  | cons b bs =>
    show PyData.eqv (.tuple (_ :: _)) (.tuple []) = _
    simp [PyData.eqv, PyData.eqvAll]
end
/-! rank -/
abbrev kA (i : Bool × Int) : List D := [vD i.1 i.2]
def koR (i : Bool × Int) : Res := .ret (if i.1 = true then .str "text" else .str "int")
abbrev spKo (K : PySem.W.Frag) : Sp := spI K kA (fun _ => True) koR
theorem vD_isN (k : Bool) (n : Int) : (vD k n).isN = false := by cases k <;> rfl
theorem kind_xs (i : Bool × Int) : Xs K W (t_kind_of K W) (argsE N_kind_of (kA i)) (fnR (koR i)) := by
  obtain ⟨k, n⟩ := i
  refine xs_seq (xs1_if (b := false) (et1_val (ev_is (ev1_op (ev_var (d := vD k n) rfl) ev_non od_isN) (by rw [vD_isN]))) (fun z => nomatch z) fun _ => xs_next (then_nx ?_))
  refine xs1_ret (ev1_if (et1_B (ev_isStr (d := vD k n) (b := k) (ev_var rfl) ?_)) (fun _ => ev_str) fun _ => ev_str) rfl
  cases k with
  | false => exact .inl ⟨n, rfl, rfl⟩
  | true => exact .inr ⟨tx n, rfl, rfl⟩
def rkR (i : Bool × Int) : Res := .ret (rk i.1 i.2)
abbrev spRk (K : PySem.W.Frag) : Sp := spI K kA (fun _ => True) rkR
theorem rank_xs (i : Bool × Int) : Xs K W (t_rank K W (spKo K)) (argsE N_rank (kA i)) (fnR (rkR i)) := by
  obtain ⟨k, n⟩ := i
  refine xs_seq (xs1_if (b := false) (et1_val (ev_is (ev1_op (ev_var (d := vD k n) rfl) ev_non od_isN) (by rw [vD_isN]))) (fun z => nomatch z) fun _ => xs_next (then_nx ?_))
  have hk : ∀ (b : Bool), b = !k → Et K (WE W) (tTest (tOp (rEqG K) (tCallS (spKo K) (WE W) (tCons (tVar 0) tNil)) (tC (.str "int")))) (argsE N_rank (kA (k, n))) (· = b) fun _ => False := fun b hb => by
    cases k with
    | false => exact et_is (et1_val (ev_is (ev1_op (ev1_callI (d := .str "int") (false, n) (ea1_cons (ev_var (d := vD false n) rfl) ea_nil) trivial rfl) ev_str od_eqX) (by refine congrArg D.bl ?_; decide +kernel))) hb.symm
    | true => exact et_is (et1_val (ev_is (ev1_op (ev1_callI (d := .str "text") (true, n) (ea1_cons (ev_var (d := vD true n) rfl) ea_nil) trivial rfl) ev_str od_eqX) (by refine congrArg D.bl ?_; decide +kernel))) hb.symm
  refine xs1_ret (ev_is (ev1_if (x := .tup [.int 1, vD k n]) (y := .tup [.int 2, vD k n]) (hk (!k) rfl) (fun _ => ev1_tup (ea1_cons ev_int (ea1_cons (ev_var (d := vD k n) rfl) ea_nil))) fun _ => ev1_tup (ea1_cons ev_int (ea1_cons (ev_var (d := vD k n) rfl) ea_nil))) ?_) rfl
  cases k <;> rfl
theorem ev_rank {E : L2.St → XK} {Δ : En} {X : Addr → Prop} {te : TE} {k : Bool} {n : Int} (h : Ev K E te Δ (· = vD k n) X) : Ev K E (tCallS (spRk K) E (tCons te tNil)) Δ (· = rk k n) X := ev1_callI (k, n) (ea1_cons h ea_nil) trivial rfl
/-! the methods -/
abbrev s1A (K : PySem.W.Frag) (s : Sm) : List D := [smD K s]
def shR (s : Sm) : Res := .ret (.tup [.int (s.rows : Nat), .int (s.nulls : Nat), .int (s.diff : Nat), .tup (s.bs.map (rk s.k))])
abbrev spSh (K : PySem.W.Frag) : Sp := spI K (s1A K) (fun _ => True) shR
theorem shown_xs (sc : SC K) (s : Sm) : Xs K W (t_Summary_shown K W) (argsE N_Summary_shown (s1A K s)) (fnR (shR s)) :=
  xs1_ret (ev1_tup (ea1_cons (ev_rows sc (ev_var (d := smD K s) rfl)) (ea1_cons (ev_nulls sc (ev_var (d := smD K s) rfl)) (ea1_cons (ev_diff sc (ev_var (d := smD K s) rfl)) (ea1_cons (ev_bs sc (ev_var (d := smD K s) rfl)) ea_nil))))) rfl
def eqRs (s : Sm) : Res := .ret (.int (eqR s))
abbrev spEq (K : PySem.W.Frag) : Sp := spI K (s1A K) SmOk eqRs
theorem equal_xs (sc : SC K) (s : Sm) (h : SmOk s) : Xs K W (t_Summary_equal_rows K W) (argsE N_Summary_equal_rows (s1A K s)) (fnR (eqRs s)) := by
  refine xs_seq (xs1_if (b := decide ((s.diff : Int) = 0)) (et1_val (ev1_op (ev_diff sc (ev_var (d := smD K s) rfl)) ev_int od_eqI)) (fun hb => xs1_ret ev_int ?_) fun hb => xs_next (then_nx ?_))
  · have : s.diff = 0 := by have := of_decide_eq_true hb; omega
    show eqRs s = _
    rw [eqRs, eqR, if_pos this]
  · have h0 : ¬ s.diff = 0 := by have := of_decide_eq_false hb; omega
    have hd := h.d
    refine xs1_ret (ev1_op (ev1_op (ev1_op (ev1_op (ev_rows sc (ev_var (d := smD K s) rfl)) (ev_nulls sc (ev_var (d := smD K s) rfl)) od_sub) (ev_diff sc (ev_var (d := smD K s) rfl)) od_add) ev_int od_sub) (ev_diff sc (ev_var (d := smD K s) rfl)) (od_div (cdivw (by omega) (by omega)))) ?_
    show eqRs s = _
    rw [eqRs, eqR, if_neg h0]
abbrev blA (K : PySem.W.Frag) (i : Sm × Int) : List D := [smD K i.1, vD i.1.k i.2]
def blP (i : Sm × Int) : Prop := SmOk i.1 ∧ okV i.1.k i.2
def blR (i : Sm × Int) : Res := .ret (.int (below i.1 i.2))
abbrev spBl (K : PySem.W.Frag) : Sp := spI K (blA K) blP blR
/-- len([bound for bound in bounds if bound < rank(value)]) -/
theorem ev_passed {E : L2.St → XK} {Δ : En} {X : Addr → Prop} {te : TE} {i j : Nat} {k : Bool} {bs : List Int} {n : Int} (hb : Ev K E te Δ (· = .tup (bs.map (rk k))) X) (hv : (wipeE Δ [i])[j]? = some (.dat (vD k n))) (hij : i ≠ j) (hi : i < Δ.length) (hok : ∀ b ∈ bs, okV k b) (hn : okV k n) (hl : bs.length ≤ 1000) :
    Ev K E (tCB (rLenC K) (tCons (tLc (iSeq K te) (gName i) (tTest (tOp (rLtH K) (tVar i) (tCallS (spRk K) E00 (tCons (tVar j) tNil)))) (tVar i) [i]) tNil)) Δ (· = .int (passed bs n : Nat)) X := by
  refine ev_is (ev_lenL (ev_filt (rk k) (rk k) (fun b => decide (b < n)) (ew_inr (ew_inl (ew_tup (hb.imp fun d e => ⟨_, e, rfl⟩)))) (by omega) fun m b hm => ⟨[i], _, (fun _ h => h), tg_name, ?_, fun _ => ?_⟩)) (by rw [List.length_map]; rfl)
  · have hbm := List.mem_of_getElem? hm
    refine et_is (et1_val (ev1_op (x := rk k b) (y := rk k n) (ev_var ?_) (ev_rank (ev_var ?_)) (od_ltA (rk_pure k b) (rk_pure k n) (rk_alike k b n) (by cases k <;> simp [rk, D.py]) (rk_depth k b)))) (rk_lt (hok b hbm) hn)
    · rw [List.getElem?_set_self]
      show i < (Δ.set i .no).length
      rw [List.length_set]; exact hi
    · rw [List.getElem?_set_ne hij]
      exact hv
  · refine ev_var ?_
    rw [List.getElem?_set_self]
    show i < (Δ.set i .no).length
    rw [List.length_set]; exact hi
theorem below_xs (sc : SC K) (i : Sm × Int) (h : blP i) : Xs K W (t_Summary_below_rows K W (spRk K)) (argsE N_Summary_below_rows (blA K i)) (fnR (blR i)) := by
  obtain ⟨s, n⟩ := i
  obtain ⟨h, hn⟩ := h
  replace hn : okV s.k n := hn
  replace h : SmOk s := h
  have e0 : ∀ {Δ : En} {E : L2.St → XK}, Δ[0]? = some (Sl.dat (smD K s)) → Ev K E (tVar 0) Δ (· = smD K s) fun _ => False := fun h => ev_var h
  refine xs_seq (xs1_if (b := decide (s.bs = [])) (et1_val (ev_is (ev1_op (ev_bs sc (e0 rfl)) (ev1_tup ea_nil) (od_eqD (bs_ok h.v) (by decide +kernel))) (by rw [bs_nil]))) (fun hb => xs1_ret ev_int ?_) fun hb => xs_next (then_nx ?_))
  · have : s.bs = [] := of_decide_eq_true hb
    show blR (s, n) = _
    rw [blR]
    show Res.ret (.int (below s n)) = _
    rw [below, if_pos this]
  have h0 : ¬ s.bs = [] := of_decide_eq_false hb
  have hl : 0 < s.bs.length := List.length_pos_iff.mpr h0
  have hb := h.b
  have hr := h.r
  have hp := passed_le s.bs n
  refine xs_seq (xs1_asg (ev_passed (n := n) (ev_bs sc (e0 rfl)) rfl (by decide) (show 3 < 4 by decide) h.v hn h.b) (then_nx ?_))
  refine xs1_ret (ev1_op (ev1_op (ev1_op (ev_rows sc (e0 rfl)) (ev_nulls sc (e0 rfl)) od_sub) (ev_var rfl) (od_mul (.inr ⟨by omega, by omega⟩))) (ev_is (ev_lenT (ev_bs sc (e0 rfl))) (by rw [List.length_map])) (od_div (cdivw (by omega) (by omega)))) ?_
  show blR (s, n) = _
  rw [blR]
  show Res.ret (.int (below s n)) = _
  rw [below, if_neg h0]
abbrev rgA (K : PySem.W.Frag) (i : Sm × Option Int × Option Int) : List D := [smD K i.1, oD i.1.k i.2.1, oD i.1.k i.2.2]
def rgP (i : Sm × Option Int × Option Int) : Prop := SmOk i.1 ∧ (∀ a, i.2.1 = some a → okV i.1.k a) ∧ ∀ a, i.2.2 = some a → okV i.1.k a
def rgR (i : Sm × Option Int × Option Int) : Res := .ret (.int (rngR i.1 i.2.1 i.2.2))
abbrev spRg (K : PySem.W.Frag) : Sp := spI K (rgA K) rgP rgR
theorem oD_isN (k : Bool) (o : Option Int) : (oD k o).isN = decide (o = none) := by cases o <;> cases k <;> rfl
theorem ev_below {E : L2.St → XK} {Δ : En} {te tf : TE} {s : Sm} {n : Int} {E' : XK} {X : Addr → Prop} (h : Ev K E te Δ (· = smD K s) X) (h2 : Ev K E tf Δ (· = vD s.k n) X) (ok : SmOk s) (hn : okV s.k n) : Ev K E (tMeth (He.ga K "Summary") "below_rows" (spBl K) [] E' te (tCons tf tNil)) Δ (· = .int (below s n)) X :=
  ev_methI (s, n) h rfl (ea1_cons h2 ea_nil) rfl ⟨ok, hn⟩ rfl
theorem range_xs (sc : SC K) (i : Sm × Option Int × Option Int) (h : rgP i) : Xs K W (t_Summary_range_rows K W (spBl K)) (argsE N_Summary_range_rows (rgA K i)) (fnR (rgR i)) := by
  obtain ⟨s, lo, hi⟩ := i
  obtain ⟨h, hlo, hhi⟩ := h
  replace h : SmOk s := h
  have e0 : ∀ {Δ : En} {E : L2.St → XK}, Δ[0]? = some (Sl.dat (smD K s)) → Ev K E (tVar 0) Δ (· = smD K s) fun _ => False := fun h => ev_var h
  refine xs_seq (xs1_asg (d := .int (hiR s hi)) (ev_is (ev1_if (b := decide (hi = none)) (x := .int ((s.rows : Int) - s.nulls)) (y := .int (hiR s hi))
    (et1_val (ev_is (ev1_op (ev_var (d := oD s.k hi) rfl) ev_non od_isN) (by rw [oD_isN]))) (fun _ => ev1_op (ev_rows sc (e0 rfl)) (ev_nulls sc (e0 rfl)) od_sub) fun hb => ?_) ?_) (then_nx ?_))
  · cases hi with
    | none => cases hb
    | some x => exact ev_below (e0 rfl) (ev_var rfl) h (hhi x rfl)
  · cases hi <;> rfl
  · refine xs1_ret (ev1_cb (ea1_cons ev_int (ea1_cons (ev1_op (ev_var rfl) (ev_is (d' := .int (loR s lo)) (ev1_if (b := decide (lo = none)) (x := .int 0) (y := .int (loR s lo))
      (et1_val (ev_is (ev1_op (ev_var (d := oD s.k lo) rfl) ev_non od_isN) (by rw [oD_isN]))) (fun _ => ev_int) fun hb => ?_) ?_) od_sub) ea_nil)) cd_max) ?_
    · cases lo with
      | none => cases hb
      | some x => exact ev_below (e0 rfl) (ev_var rfl) h (hlo x rfl)
    · cases lo <;> rfl
    · show rgR (s, lo, hi) = _
      rfl
end
end K28


namespace K28
open PySem PySem.Spec PyProof.Rows L2 Ts
section
variable [Tt] {K : PySem.W.Frag} {W : WX}
theorem getD_at {ns : List Int} {i : Nat} (h : i < ns.length) : ns[i]? = some (ns.getD i 0) := by rw [List.getD_eq_getElem?_getD, List.getElem?_eq_getElem h]; rfl
theorem rks_at {k : Bool} {ns : List Int} {i : Nat} (h : i < ns.length) : (ns.map (rk k))[i]? = some (rk k (ns.getD i 0)) := by rw [List.getElem?_map, getD_at h]; rfl
theorem rks_atI {k : Bool} {ns : List Int} {i : Nat} {j : Int} (h : i < ns.length) (e : j = (i : Int)) : atI (ns.map (rk k)) j = some (rk k (ns.getD i 0)) := by
  subst e
  exact atI_nn (by omega) (by rw [Int.toNat_natCast]; exact rks_at h)
theorem given_rk (k : Bool) : ∀ vs : List (Option Int), (vs.filter Option.isSome).map (fun o => rk k (o.getD 0)) = (given vs).map (rk k)
  | [] => rfl
  | none :: vs => given_rk k vs
  | some n :: vs => congrArg (rk k n :: ·) (given_rk k vs)
/-- [ranks[(place + 1) * len(ranks) // many - 1] for place in range(many)] -/
theorem ev_bounds {E : L2.St → XK} {Δ : En} {X : Addr → Prop} {a m c : Nat} {k : Bool} {ns : List Int} (hm : Δ[m]? = some (.dat (.int (min 8 ns.length : Nat)))) (ha : Δ[a]? = some (.dat (.lst (ns.map (rk k))))) (hca : c ≠ a) (hcm : c ≠ m) (hc : c < Δ.length) (hl : ns.length ≤ 1000) :
    Ev K E (tLc (iRng1 (tCons (tVar m) tNil)) (gName c) tYes (tOp (rIx K) (tVar a) (tOp rSubG (tOp rDivG (tOp (rMulG K) (tOp (rAddG K) (tVar c) (tC (.int 1))) (tCB (rLenC K) (tCons (tVar a) tNil))) (tVar m)) (tC (.int 1)))) [c]) Δ (· = .lst ((bnds ns).map (rk k))) X := by
  have ga : ∀ {x : Sl}, (((wipeE Δ [c]).set c x)[a]?) = Δ[a]? := fun {x} => by
    show ((Δ.set c .no).set c x)[a]? = _
    rw [List.getElem?_set_ne hca, List.getElem?_set_ne hca]
  have gm : ∀ {x : Sl}, (((wipeE Δ [c]).set c x)[m]?) = Δ[m]? := fun {x} => by
    show ((Δ.set c .no).set c x)[m]? = _
    rw [List.getElem?_set_ne hcm, List.getElem?_set_ne hcm]
  have gc : ∀ {x : Sl}, (((wipeE Δ [c]).set c x)[c]?) = some x := fun {x} => by
    rw [List.getElem?_set_self]
    show c < (Δ.set c .no).length
    rw [List.length_set]; exact hc
  refine ev_is (ev1_lc (items := rngD 0 1 (min 8 ns.length)) (fun p _ => rk k (ns.getD ((p + 1) * ns.length / min 8 ns.length - 1) 0)) (ew_rng1 ((ev_var hm).imp fun d e => ⟨_, e, by omega, by omega, by rw [Int.toNat_natCast]⟩)) (by rw [rngD_len]; omega) fun i d hd => ⟨[c], _, (fun _ h => h), tg_name, ?_⟩) ?_
  · obtain ⟨hi, rfl⟩ := rngD_of hd
    have hp := place_lt hi
    have hlen : Ev K E00 (tCB (rLenC K) (tCons (tVar a) tNil)) ((wipeE Δ [c]).set c (.dat (.int (0 + (i : Nat) * 1)))) (· = .int (ns.length : Nat)) fun _ => False := ev_is (ev_lenL (ev_var (ga.trans ha))) (by rw [List.length_map])
    refine ev1_op (ev_var (ga.trans ha)) (ev1_op (ev1_op (ev1_op (ev1_op (ev_var gc) ev_int od_add) hlen (od_mul (.inr ⟨by omega, by omega⟩))) (ev_var (gm.trans hm)) (od_div (cdivw (by omega) (by omega)))) ev_int od_sub) (od_ixL (rks_atI hp ?_))
    have h1 : ns.length ≤ (i + 1) * ns.length := Nat.le_mul_of_pos_left _ (by omega)
    have h2 : 1 ≤ (i + 1) * ns.length / min 8 ns.length := (Nat.le_div_iff_mul_le (by omega)).mpr (by omega)
    have h3 : (((0 + (i : Nat) * 1 : Int) + 1) * (ns.length : Nat)) = (((i + 1) * ns.length : Nat) : Int) := by
      rw [Int.natCast_mul]
      congr 1
      omega
    rw [h3, ← Int.natCast_ediv]
    omega
  · congr 1
    refine List.ext_getElem? fun i => ?_
    unfold bnds
    rw [List.getElem?_mapIdx, List.map_map, List.getElem?_map]
    by_cases hi : i < min 8 ns.length
    · rw [rngD_get hi, List.getElem?_range hi]; rfl
    · rw [List.getElem?_eq_none (by rw [rngD_len]; omega), List.getElem?_eq_none (by rw [List.length_range]; omega)]; rfl
/-! ### summarize -/
abbrev smA (i : Bool × List (Option Int)) : List D := [.lst (i.2.map (oD i.1))]
def smP (i : Bool × List (Option Int)) : Prop := okC i.1 i.2 ∧ i.2.length ≤ 1000
def smR (K : PySem.W.Frag) (i : Bool × List (Option Int)) : Res := .ret (smD K (sumI i.1 i.2))
abbrev spSm (K : PySem.W.Frag) : Sp := spI K smA smP (smR K)
abbrev spNw (K : PySem.W.Frag) : Sp := spNew K (He.ga K "Summary") initPre initF
theorem sum_ok {k : Bool} {vs : List (Option Int)} (h : smP (k, vs)) : SmOk (sumI k vs) := by
  obtain ⟨hc, hl⟩ := h
  replace hl : vs.length ≤ 1000 := hl
  have h1 := given_len vs
  have h2 := dcnt_le (srt (given vs))
  rw [srt_len] at h2
  refine ⟨Nat.sub_le _ _, hl, show dcnt (srt (given vs)) ≤ 1000 by omega, ?_, fun b hb => hc b (given_mem (mem_srt.mp (bnds_mem hb)))⟩
  show (bnds (srt (given vs))).length ≤ 1000
  rw [bnds_len]
  omega
theorem oD_notN (k : Bool) (o : Option Int) : (!(oD k o).isN) = o.isSome := by cases o <;> cases k <;> rfl
/-- sorted ranks -/
theorem srt_is {k : Bool} {vs : List (Option Int)} (hc : okC k vs) : (((vs.filter Option.isSome).map fun o => rk k (o.getD 0))).mergeSort leD = (srt (given vs)).map (rk k) := by
  rw [given_rk, srt_rk fun a ha => hc a (given_mem ha)]
theorem summarize_xs (i : Bool × List (Option Int)) (h : smP i) : Xs K W (t_summarize K W (spRk K) (spNw K)) (argsE N_summarize (smA i)) (fnR (smR K i)) := by
  obtain ⟨k, vs⟩ := i
  obtain ⟨hc, hl⟩ := h
  replace hc : okC k vs := hc
  replace hl : vs.length ≤ 1000 := hl
  have hn : (srt (given vs)).length ≤ vs.length := by rw [srt_len]; exact given_len vs
  have hv : ∀ a ∈ srt (given vs), okV k a := fun a ha => hc a (given_mem (mem_srt.mp ha))
  generalize hns : srt (given vs) = ns at *
  refine xs_seq (xs1_asg (d := .lst (ns.map (rk k))) (ev_is (ev_sortF (xs := vs) (oD k) (fun o => rk k (o.getD 0)) Option.isSome (ew_inl (ew_list ((ev_var (d := .lst (vs.map (oD k))) rfl).imp fun d e => ⟨_, e, rfl⟩))) (by omega) (fun i o ho => ⟨[5], _, (fun _ h => h), tg_name, ?_, fun hs => ?_⟩) (fun o => rk_pure k _) ?_) ?_) (then_nx ?_))
  · exact et_is (et1_val (ev1_op (ev_var (d := oD k o) rfl) ev_non od_notN)) (oD_notN k o)
  · cases o with
    | none => cases hs
    | some n => exact ev_rank (ev_var (d := vD k n) rfl)
  · rw [given_rk]
    exact rk_can k _
  · rw [srt_is hc, hns]
  have hlen : ∀ {Δ : En} {E : L2.St → XK} {X : Addr → Prop}, Δ[1]? = some (Sl.dat (.lst (ns.map (rk k)))) → Ev K E (tCB (rLenC K) (tCons (tVar 1) tNil)) Δ (· = .int (ns.length : Nat)) X := fun h => ev_is (ev_lenL (ev_var h)) (by rw [List.length_map])
  refine xs_seq (xs1_asg (d := .int (dcnt ns : Nat)) (ev_is (ev_lenL (ev_filtI (items := enumD (ns.map (rk k))) (fun i => .int (i : Nat)) (fresh ns) (ew_enum ((ev_var (d := .lst (ns.map (rk k))) rfl).imp fun d e => ⟨_, e, rfl⟩)) (by rw [enumD_len, List.length_map]; omega) fun i d hd => ?_)) ?_) (then_nx ?_))
  · obtain ⟨e, he, rfl⟩ := enumD_of hd
    have hi : i < ns.length := by have := (List.getElem?_eq_some_iff.mp he).1; rw [List.length_map] at this; exact this
    rw [rks_at hi] at he
    cases he
    refine ⟨[6, 7], _, (fun _ h => h), tg2, ?_, fun _ => ev_var rfl⟩
    have m1 : ns.getD i 0 ∈ ns := List.mem_of_getElem? (getD_at hi)
    have m2 : ns.getD (i - 1) 0 ∈ ns := List.mem_of_getElem? (getD_at (by omega))
    refine et_is (et1_or (a := decide ((i : Int) = 0)) (b := !PyData.eqv (rk k (ns.getD (i - 1) 0)).py (rk k (ns.getD i 0)).py) (et1_val (ev1_op (ev_var rfl) ev_int od_eqI)) fun h0 => et1_val (ev1_op (x := rk k (ns.getD (i - 1) 0)) (ev1_op (ev_var (d := .lst (ns.map (rk k))) rfl) (ev1_op (ev_var (d := .int (i : Nat)) rfl) ev_int od_sub) (od_ixL (rks_atI (by omega) ?_))) (ev_var (d := rk k (ns.getD i 0)) rfl)
      (od_neD (okN_ok (n := 1) (rk_ok (hv _ m2))) (okN_ok (n := 1) (rk_ok (hv _ m1)))))) ?_
    · have := of_decide_eq_false h0
      omega
    · rw [rk_eqv (hv _ m2) (hv _ m1)]
      unfold fresh
      congr 1
      rw [decide_eq_decide]
      omega
  · rw [List.length_map, enumD_len, List.length_map]
    rfl
  refine xs_seq (xs1_asg (d := .int (min 8 ns.length : Nat)) (ev_is (ev1_cb (ea1_cons ev_int (ea1_cons (hlen rfl) ea_nil)) cd_min) ?_) (then_nx ?_))
  · congr 1
    split <;> omega
  refine xs_seq (xs1_asg (ev_bounds (k := k) (ns := ns) rfl rfl (by decide) (by decide) (show 6 < 8 by decide) (by omega)) (then_nx ?_))
  have hlv : ∀ {Δ : En} {E : L2.St → XK} {X : Addr → Prop}, Δ[0]? = some (Sl.dat (.lst (vs.map (oD k)))) → Ev K E (tCB (rLenC K) (tCons (tVar 0) tNil)) Δ (· = .int (vs.length : Nat)) X := fun h => ev_is (ev_lenL (ev_var h)) (by rw [List.length_map])
  refine xs1_ret (ev_is (ev_make (ds := [.int (vs.length : Nat), .int ((vs.length : Nat) - (ns.length : Nat)), .int (dcnt ns : Nat), seqD true ((bnds ns).map (rk k))]) (ea1_cons (hlv rfl) (ea1_cons (ev1_op (hlv rfl) (hlen rfl) od_sub) (ea1_cons (ev_var rfl) (ea1_cons (ev_var rfl) ea_nil)))) ⟨_, _, _, true, _, rfl⟩) ?_) rfl
  rw [initF_eq]
  unfold smD smF sumI
  rw [hns]
  congr 4
  · congr 1
    have : ((vs.length - (given vs).length : Nat) : Int) = (vs.length : Int) - (ns.length : Int) := by
      have : ns.length = (given vs).length := by rw [← hns, srt_len]
      have := given_len vs
      omega
    rw [this]
/-! ### summarize_rows -/
def col1 (n : Nat) : List (Option Int) := (List.range n).map fun j : Nat => some (j : Int)
theorem col1_len (n : Nat) : (col1 n).length = n := by simp [col1]
def rowsD (k : Bool) (vs : List (Option Int)) : D := .lst (vs.mapIdx fun j o => .tup [oD k o, .int (j : Nat)])
abbrev srA (i : Bool × List (Option Int)) : List D := [rowsD i.1 i.2, .int 2]
def srR (K : PySem.W.Frag) (i : Bool × List (Option Int)) : Res := .ret (.tup [smD K (sumI i.1 i.2), smD K (sumI false (col1 i.2.length))])
abbrev spSr (K : PySem.W.Frag) : Sp := spI K srA smP (srR K)
theorem col1_ok (n : Nat) (h : n ≤ 1000) : smP (false, col1 n) := ⟨fun a _ => (fun z => nomatch z), by rw [col1_len]; exact h⟩
theorem rows_xs (i : Bool × List (Option Int)) (h : smP i) : Xs K W (t_summarize_rows K W (spSm K)) (argsE N_summarize_rows (srA i)) (fnR (srR K i)) := by
  obtain ⟨k, vs⟩ := i
  have hl : vs.length ≤ 1000 := h.2
  refine xs1_ret (ev_is (ev1_tupGe (items := rngD 0 1 2) (fun p _ => if p = 0 then smD K (sumI k vs) else smD K (sumI false (col1 vs.length))) (ew_rng1 ((ev_var (d := .int 2) rfl).imp fun d e => ⟨2, e, by decide, by decide, rfl⟩)) (by decide) fun p d hd => ?_) rfl) rfl
  obtain ⟨hp, rfl⟩ := rngD_of hd
  refine ⟨[2], _, (fun x h => by simp at h; simp [h]), tg_name, ?_⟩
  have inner : ∀ (g : Nat → D), (∀ j o, vs[j]? = some o → (if p = 0 then oD k o else .int (j : Nat)) = g j) → Ev K E00 (tLc (iSeq K (tVar 0)) (gName 3) tYes (tOp (rIx K) (tVar 3) (tVar 2)) [3]) ([.dat (rowsD k vs), .dat (.int 2), .dat (.int (0 + (p : Nat) * 1)), .no] : En) (· = .lst ((List.range vs.length).map g)) fun _ => False := fun g hg => by
    refine ev_is (ev1_lc (items := vs.mapIdx fun j o => .tup [oD k o, .int (j : Nat)]) (fun j _ => g j) (ew_inl (ew_list ((ev_var (d := rowsD k vs) rfl).imp fun d e => ⟨_, e, rfl⟩))) (by rw [List.length_mapIdx]; omega) fun j d hd => ?_) ?_
    · rw [List.getElem?_mapIdx] at hd
      obtain ⟨o, ho, rfl⟩ := Option.map_eq_some_iff.mp hd
      refine ⟨[3], _, (fun _ h => h), tg_name, ?_⟩
      refine ev1_op (ev_var (d := .tup [oD k o, .int (j : Nat)]) rfl) (ev_var (d := .int (0 + (p : Nat) * 1)) rfl) (od_ixT (atI_nn (by omega) ?_))
      rw [← hg j o ho]
      match p, hp with
      | 0, _ => rfl
      | 1, _ => rfl
    · congr 1
      refine List.ext_getElem? fun j => ?_
      rw [List.getElem?_mapIdx, List.getElem?_mapIdx, List.getElem?_map]
      by_cases hj : j < vs.length
      · rw [List.getElem?_eq_getElem hj, List.getElem?_range hj]; rfl
      · rw [List.getElem?_eq_none (show vs.length ≤ j from Nat.le_of_not_lt hj), List.getElem?_eq_none (by rw [List.length_range]; exact (show vs.length ≤ j from Nat.le_of_not_lt hj))]; rfl
  match p, hp with
  | 0, _ =>
    refine ev1_callI (k, vs) (ea1_cons (ev_is (inner (fun j => oD k (vs.getD j none)) fun j o ho => ?_) ?_) ea_nil) h rfl
    · rw [List.getD_eq_getElem?_getD, ho]; rfl
    · congr 1
      refine List.ext_getElem? fun j => ?_
      rw [List.getElem?_map, List.getElem?_map]
      by_cases hj : j < vs.length
      · rw [List.getElem?_range hj, List.getElem?_eq_getElem hj]
        simp [List.getD_eq_getElem?_getD, List.getElem?_eq_getElem hj]
      · rw [List.getElem?_eq_none (by rw [List.length_range]; exact Nat.le_of_not_lt hj), List.getElem?_eq_none (show vs.length ≤ j from Nat.le_of_not_lt hj)]; rfl
  | 1, _ =>
    refine ev1_callI (false, col1 vs.length) (ea1_cons (ev_is (inner (fun j => .int (j : Nat)) fun j o ho => rfl) ?_) ea_nil) (col1_ok _ hl) rfl
    show D.lst _ = D.lst ((col1 vs.length).map (oD false))
    congr 1
    unfold col1
    rw [List.map_map]
    rfl
end
end K28


namespace K28
open PySem PySem.Spec PyProof.Rows L2 Ts
section
variable [Tt] {K : PySem.W.Frag} {W : WX}
def Sgn (sg : Str) : Prop := sg = "=" ∨ sg = "<" ∨ sg = "<=" ∨ sg = ">" ∨ sg = ">="
theorem sgn_in {sg : Str} (h : Sgn sg) : inV (.str sg) [.str "<", .str "<="] = decide (sg = "<" ∨ sg = "<=") := by
  rcases h with rfl | rfl | rfl | rfl | rfl <;> decide +kernel
section
variable {E : L2.St → XK} {Δ : En} {X : Addr → Prop} {te tf tg : TE} {E' : XK}
theorem ev_equal {s : Sm} (h : Ev K E te Δ (· = smD K s) X) (ok : SmOk s) : Ev K E (tMeth (He.ga K "Summary") "equal_rows" (spEq K) [] E' te tNil) Δ (· = .int (eqR s)) X := ev_methI s h rfl ea_nil rfl ok rfl
theorem ev_range {s : Sm} {a b : Option Int} (h : Ev K E te Δ (· = smD K s) X) (h1 : Ev K E tf Δ (· = oD s.k a) X) (h2 : Ev K E tg Δ (· = oD s.k b) X) (ok : SmOk s) (ha : ∀ n, a = some n → okV s.k n) (hb : ∀ n, b = some n → okV s.k n) :
    Ev K E (tMeth (He.ga K "Summary") "range_rows" (spRg K) [] E' te (tCons tf (tCons tg tNil))) Δ (· = .int (rngR s a b)) X := ev_methI (s, a, b) h rfl (ea1_cons h1 (ea1_cons h2 ea_nil)) rfl ⟨ok, ha, hb⟩ rfl
theorem ev_shown {s : Sm} (h : Ev K E te Δ (· = smD K s) X) : Ev K E (tMeth (He.ga K "Summary") "shown" (spSh K) [] E' te tNil) Δ (· = .tup [.int (s.rows : Nat), .int (s.nulls : Nat), .int (s.diff : Nat), .tup (s.bs.map (rk s.k))]) X := ev_methI s h rfl ea_nil rfl trivial rfl
end
theorem left_xs {Δ : En} {post : Out → Prop} {s : Sm} {sg : Str} {n : Int} {k' : Bool} (h4 : Δ[4]? = some (.dat (.str sg))) (h5 : Δ[5]? = some (.dat (vD k' n))) (h6 : Δ[6]? = some (.dat (smD K s))) (ok : SmOk s) (hs : Sgn sg) (hk : (k' = s.k ∧ okV k' n) ∨ sg = "=") (k : post (.nx (Δ.set 7 (.dat (.int (left s sg n)))))) :
    Xs K W (tIfS (tTest (tOp (rEqG K) (tVar 4) (tC (.str "=")))) (tAsg (tMeth (He.ga K "Summary") "equal_rows" (spEq K) [] XF (tVar 6) tNil) (gName 7)) (tIfS (tTest (tOp (rInG K false) (tVar 4) (tTup (tCons (tC (.str "<")) (tCons (tC (.str "<=")) tNil))))) (tAsg (tOp (rAddG K) (tMeth (He.ga K "Summary") "below_rows" (spBl K) [] XF (tVar 6) (tCons (tVar 5) tNil)) (tIf (tTest (tOp (rEqG K) (tVar 4) (tC (.str "<=")))) (tMeth (He.ga K "Summary") "equal_rows" (spEq K) [] XF (tVar 6) tNil) (tC (.int 0)))) (gName 7))
      (tAsg (tOp rSubG (tMeth (He.ga K "Summary") "range_rows" (spRg K) [] XF (tVar 6) (tCons (tVar 5) (tCons (tC .non) tNil))) (tIf (tTest (tOp (rEqG K) (tVar 4) (tC (.str ">")))) (tMeth (He.ga K "Summary") "equal_rows" (spEq K) [] XF (tVar 6) tNil) (tC (.int 0)))) (gName 7)))) Δ post := by
  have hif : ∀ z : Str, Ev K (WE W) (tIf (tTest (tOp (rEqG K) (tVar 4) (tC (.str z)))) (tMeth (He.ga K "Summary") "equal_rows" (spEq K) [] XF (tVar 6) tNil) (tC (.int 0))) Δ (· = .int (if sg = z then eqR s else 0)) fun _ => False := fun z => by
    refine ev_is (ev1_if (b := decide (sg = z)) (et1_val (ev1_op (ev_var h4) ev_str od_eqX)) (fun _ => ev_equal (ev_var h6) ok) fun _ => ev_int) ?_
    by_cases c : sg = z
    · rw [if_pos c, decide_eq_true c]; rfl
    · rw [if_neg c, decide_eq_false c]; rfl
  refine xs1_if (b := decide (sg = "=")) (et1_val (ev1_op (ev_var h4) ev_str od_eqX)) (fun hb => ?_) fun hb => ?_
  · have e : left s sg n = eqR s := if_pos (of_decide_eq_true hb)
    rw [e] at k
    exact xs1_asg (ev_equal (ev_var h6) ok) k
  have hne : ¬ sg = "=" := of_decide_eq_false hb
  obtain ⟨rfl, hv⟩ := hk.resolve_right hne
  refine xs1_if (b := decide (sg = "<" ∨ sg = "<=")) (et1_val (ev_is (ev1_op (ev_var h4) (ev1_tup (ea1_cons ev_str (ea1_cons ev_str ea_nil))) (od_inT (v := .str sg) (vs := [.str "<", .str "<="]) rfl rfl rfl rfl)) (by rw [if_neg Bool.false_ne_true, sgn_in hs]))) (fun hb => ?_) fun hb => ?_
  · have e : left s sg n = below s n + (if sg = "<=" then eqR s else 0) := by
      unfold left
      rw [if_neg hne, if_pos (of_decide_eq_true hb)]
    rw [e] at k
    exact xs1_asg (ev1_op (ev_below (ev_var h6) (ev_var h5) ok hv) (hif "<=") od_add) k
  · have e : left s sg n = rngR s (some n) none - (if sg = ">" then eqR s else 0) := by
      unfold left
      rw [if_neg hne, if_neg (of_decide_eq_false hb)]
    rw [e] at k
    exact xs1_asg (ev1_op (ev_range (a := some n) (b := none) (ev_var h6) (ev_var h5) ev_non ok (fun m e => by cases e; exact hv) fun m e => nomatch e) (hif ">") od_sub) k
/-! ### expected_share -/
structure Ex where
  s : Sm
  sd : Option (Str × Option (Bool × Int))
  m : Int
def ovD : Option (Bool × Int) → D
  | none => .non
  | some (k, n) => vD k n
def sdD : Option (Str × Option (Bool × Int)) → List D
  | none => []
  | some (sg, v) => [.tup [.int 0, .str sg, ovD v]]
abbrev exA (K : PySem.W.Frag) (e : Ex) : List D := [.lst [smD K e.s], .lst (sdD e.sd), .int e.m]
structure ExP (e : Ex) : Prop where
  ok : SmOk e.s
  lo : 0 ≤ e.m
  hi : e.m ≤ 1000
  sg : ∀ sg v, e.sd = some (sg, v) → Sgn sg
  vl : ∀ sg k n, e.sd = some (sg, some (k, n)) → (k = e.s.k ∧ okV k n) ∨ sg = "="
def exV (e : Ex) : Int := match e.sd with
  | none => e.m
  | some (sg, v) => side e.s e.m sg (v.map (·.2))
def exR (e : Ex) : Res := .ret (.int (exV e))
abbrev spEx (K : PySem.W.Frag) : Sp := spI K (exA K) ExP exR
theorem ovD_notN (v : Option (Bool × Int)) : (!(ovD v).isN) = v.isSome := by
  cases v with
  | none => rfl
  | some p => obtain ⟨k, n⟩ := p; cases k <;> rfl
theorem share_xs (sc : SC K) (e : Ex) (h : ExP e) : Xs K W (t_expected_share K W (spBl K) (spEq K) (spRg K)) (argsE N_expected_share (exA K e)) (fnR (exR e)) := by
  obtain ⟨s, sd, m⟩ := e
  have ok : SmOk s := h.ok
  have hm0 : 0 ≤ m := h.lo
  have hm1 : m ≤ 1000 := h.hi
  refine xs_seq (xs1_for (items := sdD sd) (ew_inl (ew_list ((ev_var (d := .lst (sdD sd)) rfl).imp fun d e => ⟨_, e, rfl⟩))) (fun i Δ' => ∃ z3 z4 z5 z6 z7, Δ' = [.dat (.lst [smD K s]), .dat (.lst (sdD sd)), .dat (.int (if i = 0 then m else exV ⟨s, sd, m⟩)), z3, z4, z5, z6, z7]) ⟨_, _, _, _, _, rfl⟩ ?_ ?_)
  · rintro i d Δ' hd ⟨z3, z4, z5, z6, z7, rfl⟩
    cases sd with
    | none => simp [sdD] at hd
    | some p =>
      obtain ⟨sg, v⟩ := p
      have hi : i = 0 := by
        have := (List.getElem?_eq_some_iff.mp hd).1
        simp only [sdD, List.length_cons, List.length_nil] at this
        omega
      subst hi
      obtain rfl : D.tup [.int 0, .str sg, ovD v] = d := by simpa [sdD] using hd
      refine ⟨[3, 4, 5], _, tg3, ?_⟩
      refine xs_seq (xs1_asg (d := smD K s) (ev1_op (ev_var (d := .lst [smD K s]) rfl) (ev_var (d := .int 0) rfl) (od_ixL rfl)) (then_nx ?_))
      have h6 : ∀ {Δ : En} {E : L2.St → XK}, Δ[6]? = some (Sl.dat (smD K s)) → Ev K E (tVar 6) Δ (· = smD K s) fun _ => False := fun h => ev_var h
      have hs := h.sg sg v rfl
      refine xs1_if (b := decide ((0 : Int) < (s.rows : Nat)) && v.isSome) (et1_and (et1_val (ev1_op (ev_rows sc (h6 rfl)) ev_int od_gt)) fun _ => et_is (et1_val (ev1_op (ev_var (d := ovD v) rfl) ev_non od_notN)) (ovD_notN v)) (fun hb => ?_) fun hb => ?_
      · obtain ⟨b1, b2⟩ := Bool.and_eq_true_iff.mp hb
        have h0 : 0 < s.rows := by have := of_decide_eq_true b1; omega
        cases v with
        | none => cases b2
        | some p =>
          obtain ⟨k', n⟩ := p
          refine xs_seq (left_xs (sg := sg) (n := n) (k' := k') rfl rfl rfl ok hs (h.vl sg k' n rfl) (then_nx ?_))
          have hr := ok.r
          have hx0 : 0 ≤ mx 0 (mn (left s sg n) s.rows) := by unfold mx; split <;> omega
          have hx1 : mx 0 (mn (left s sg n) s.rows) ≤ (s.rows : Int) := by
            unfold mx mn
            split <;> split <;> omega
          refine xs1_asg (d := .int (exV ⟨s, some (sg, some (k', n)), m⟩)) (ev_is (ev1_op (ev1_op (ev_var (d := .int m) rfl) (ev1_cb (d := .int (mx 0 (mn (left s sg n) s.rows))) (ea1_cons ev_int (ea1_cons (ev1_cb (d := .int (mn (left s sg n) s.rows)) (ea1_cons (ev_var rfl) (ea1_cons (ev_rows sc (h6 rfl)) ea_nil)) cd_min) ea_nil)) cd_max) (od_mul (.inr ⟨by omega, by omega⟩))) (ev_rows sc (h6 rfl)) (od_div (cdivw (by omega) (by omega)))) ?_) ⟨_, _, _, _, _, rfl⟩
          show D.int _ = D.int (if 0 < s.rows then _ else _)
          rw [if_pos h0]
      · refine xs1_asg (d := .int (exV ⟨s, some (sg, v), m⟩)) (ev_is ev_int ?_) ⟨_, _, _, _, _, rfl⟩
        cases v with
        | none => rfl
        | some p =>
          have h0 : ¬ 0 < s.rows := fun z => by
            rw [Bool.and_eq_false_iff] at hb
            rcases hb with b | b
            · have := of_decide_eq_false b; omega
            · cases b
          show D.int 0 = D.int (if 0 < s.rows then _ else 0)
          rw [if_neg h0]
  · rintro Δ' ⟨z3, z4, z5, z6, z7, rfl⟩
    refine then_nx (xs1_ret (d := .int (exV ⟨s, sd, m⟩)) (ev_is (ev_var rfl) ?_) rfl)
    cases sd with
    | none => rfl
    | some p => obtain ⟨sg, v⟩ := p; rfl
/-! ### _law_bounds, _law_values -/
abbrev lbA (i : Bool × List Int) : List D := [.lst (i.2.map (rk i.1))]
def lbP (i : Bool × List Int) : Prop := i.2.length ≤ 1000
def lbR (i : Bool × List Int) : Res := .ret (.tup ((bnds i.2).map (rk i.1)))
abbrev spLb (K : PySem.W.Frag) : Sp := spI K lbA lbP lbR
theorem lbounds_xs (i : Bool × List Int) (h : lbP i) : Xs K W (t__law_bounds K W) (argsE N__law_bounds (lbA i)) (fnR (lbR i)) := by
  obtain ⟨k, ns⟩ := i
  replace h : ns.length ≤ 1000 := h
  refine xs_seq (xs1_asg (d := .int (min 8 ns.length : Nat)) (ev_is (ev1_cb (ea1_cons ev_int (ea1_cons (ev_is (ev_lenL (ev_var (d := .lst (ns.map (rk k))) rfl)) (by rw [List.length_map])) ea_nil)) cd_min) ?_) (then_nx ?_))
  · congr 1
    split <;> omega
  · exact xs1_ret (ev_tupL (ev_bounds (k := k) (ns := ns) rfl rfl (by decide) (by decide) (show 2 < 3 by decide) h)) rfl
def lvPost (ds : List D) (r : Res) : Prop := ∃ (k : Bool) (vs : List (Option Int)), r = .ret (.lst (vs.map (oD k))) ∧ okC k vs ∧ vs.length ≤ 40
abbrev spLv (K : PySem.W.Frag) : Sp := spQ K (· = []) lvPost
theorem lvalues_xs {ds : List D} (h : ds = []) : Xs K W (t__law_values K W (spRoll K)) (argsQ N__law_values ds) (fnP lvPost ds) := by
  subst h
  refine xs_seq (xs_asgT (js := [1, 2]) (R := fun d => ∃ a b : Int, d = .tup [.int a, .int b] ∧ 0 ≤ b ∧ b < 41) (X := fun _ => False) (ev_tup (Rs := fun ds => ∃ a b : Int, ds = [.int a, .int b] ∧ 0 ≤ b ∧ b < 41) (ea_cons (Rs := fun ds => ∃ b : Int, ds = [.int b] ∧ 0 ≤ b ∧ b < 41) (ev_roll rfl ev_int) (fun _ _ => ea_cons (Rs := (· = [])) (ev_roll (n := 41) rfl ev_int) (fun _ _ => ea_nil) fun d ds ⟨i, e, h0, h1⟩ e2 => ⟨i, by rw [e, e2], h0, h1⟩) fun d ds ⟨a, e, _, _⟩ ⟨b, e2, h⟩ => ⟨a, b, by rw [e, e2], h⟩)
    (fun ds ⟨a, b, e, _⟩ => by rw [e]; exact szl) fun ds ⟨a, b, e, h⟩ => ⟨a, b, by rw [e], h⟩) (fun _ z => z.elim) ?_)
  rintro d ⟨a, b, rfl, hb0, hb1⟩
  refine ⟨_, tg2, then_nx ?_⟩
  refine xs_ret (R := fun d => ∃ (vs : List (Option Int)), d = .lst (vs.map (oD (!decide (a = 0)))) ∧ okC (!decide (a = 0)) vs ∧ vs.length ≤ 40) (X := fun _ => False) (ev_lc (Rw := (· = rngD 0 1 b.toNat)) (ew_rng1 ((ev_var (d := .int b) rfl).imp fun d e => ⟨b, e, by omega, by omega, rfl⟩))
    (fun _ i acc => ∃ vs : List (Option Int), acc = vs.map (oD (!decide (a = 0))) ∧ okC (!decide (a = 0)) vs ∧ vs.length = i) (fun _ _ => ⟨[], rfl, (fun _ h => nomatch h), rfl⟩) (fun items i d acc ei hi ha => ?_) fun items acc ei ha => ?_) (fun _ z => z.elim) fun d ⟨vs, e, h1, h2⟩ => ⟨_, vs, by rw [e], h1, h2⟩
  · subst ei
    obtain ⟨hi, rfl⟩ := rngD_of hi
    obtain ⟨vs, rfl, hc, hv⟩ := ha
    refine ⟨[3], _, (fun _ h => h), tg_name, et_yes.imp fun t et => ⟨fun _ => ?_, fun z => by rw [et] at z; cases z⟩⟩
    suffices hs : Ev K E00 (tIf (tTest (tOp (rEqG K) (tCallS (spRoll K) E00 (tCons (tVar 0) (tCons (tC (.int 6)) tNil))) (tC (.int 0)))) (tC .non) (tIf (tTest (tOp (rEqG K) (tVar 1) (tC (.int 0)))) (tCallS (spRoll K) E00 (tCons (tVar 0) (tCons (tC (.int 12)) tNil))) (tOp (rIx K) (tLst (tCons (tC (.str "a")) (tCons (tC (.str "b")) (tCons (tC (.str "ba")) (tCons (tC (.str "c")) tNil))))) (tCallS (spRoll K) E00 (tCons (tVar 0) (tCons (tC (.int 4)) tNil))))))
        ([.dice, .dat (.int a), .dat (.int b), .dat (.int (0 + (i : Nat) * 1))] : En) (fun e => ∃ o, e = oD (!decide (a = 0)) o ∧ ∀ n, o = some n → okV (!decide (a = 0)) n) fun _ => False from hs.imp fun e ⟨o, eo, ho⟩ =>
      ⟨szlt (by rw [List.length_map, hv]; omega), vs ++ [o], by rw [List.map_append, eo]; rfl, fun n hn => by
        rcases List.mem_append.mp hn with z | z
        · exact hc n z
        · exact ho n (List.mem_singleton.mp z).symm, by rw [List.length_append, hv]; rfl⟩
    refine ev_if (R1 := fun _ => True) (et_iop (n := 0) ((ev_roll (n := 6) rfl ev_int).imp fun d ⟨i, e, _⟩ => ⟨i, e⟩) ev_int fun i => ⟨_, od_eqI⟩) (fun _ => ev_non.imp fun d e => ⟨none, e, fun _ z => nomatch z⟩) fun _ => ?_
    refine ev_if (R1 := (· = decide (a = 0))) (et1_val (ev1_op (ev_var (d := .int a) rfl) ev_int od_eqI)) (fun hk => ?_) fun hk => ?_
    · rw [← hk]
      exact (ev_roll (n := 12) rfl ev_int).imp fun d ⟨i, e, _⟩ => ⟨some i, e, fun n _ z => nomatch z⟩
    · rw [← hk]
      refine ev_op (Ra := (· = .lst [.str "a", .str "b", .str "ba", .str "c"])) (ev1_lst (ea1_cons ev_str (ea1_cons ev_str (ea1_cons ev_str (ea1_cons ev_str ea_nil))))) (ev_roll (n := 4) rfl ev_int) fun x y e1 ⟨j, e2, h0, h1⟩ => ?_
      subst e1; subst e2
      have : j = 0 ∨ j = 1 ∨ j = 2 ∨ j = 3 := by omega
      rcases this with rfl | rfl | rfl | rfl
      · exact OpD.imp (od_ixL (d := .str "a") rfl) fun d e => ⟨some 1, e, fun n hn _ => by cases hn; decide⟩
      · exact OpD.imp (od_ixL (d := .str "b") rfl) fun d e => ⟨some 2, e, fun n hn _ => by cases hn; decide⟩
      · exact OpD.imp (od_ixL (d := .str "ba") rfl) fun d e => ⟨some 3, e, fun n hn _ => by cases hn; decide⟩
      · exact OpD.imp (od_ixL (d := .str "c") rfl) fun d e => ⟨some 5, e, fun n hn _ => by cases hn; decide⟩
  · subst ei
    obtain ⟨vs, rfl, hc, hv⟩ := ha
    exact ⟨vs, rfl, hc, by rw [hv, rngD_len]; omega⟩
end
end K28


namespace K28
open PySem PySem.Spec PyProof.Rows L2 Ts
section
variable [Tt] {K : PySem.W.Frag} {W : WX}
abbrev bT (K : PySem.W.Frag) (W : WX) : TS := b_law K W (spLb K) (spRounds K) (spLv K) (spEx K) (spRk K) (spSm K) (spSr K) (spNw K) (spBl K) (spEq K) (spRg K) (spSh K)
abbrev fT (K : PySem.W.Frag) (W : WX) : TE := f_law K W (spLb K) (spRounds K) (spLv K) (spEx K) (spRk K) (spSm K) (spSr K) (spNw K) (spBl K) (spEq K) (spRg K) (spSh K)
/-! the column's plain facts -/
structure Col (k : Bool) (vs : List (Option Int)) (ns : List Int) : Prop where
  ok : okC k vs
  hl : vs.length ≤ 40
  e : ns = srt (given vs)
  z : ns = [] → k = false
theorem Col.smP {k : Bool} {vs : List (Option Int)} {ns : List Int} (c : Col k vs ns) : smP (k, vs) := ⟨c.ok, by have := c.hl; show vs.length ≤ 1000; omega⟩
theorem Col.nl {k : Bool} {vs : List (Option Int)} {ns : List Int} (c : Col k vs ns) : ns.length ≤ vs.length := by rw [c.e, srt_len]; exact given_len vs
theorem Col.v {k : Bool} {vs : List (Option Int)} {ns : List Int} (c : Col k vs ns) : ∀ a ∈ ns, okV k a := fun a ha => c.ok a (given_mem (mem_srt.mp (by rw [← c.e]; exact ha)))
theorem Col.so {k : Bool} {vs : List (Option Int)} {ns : List Int} (c : Col k vs ns) : ns.Pairwise (· ≤ ·) := by rw [c.e]; exact srt_sorted _
theorem Col.rn {k : Bool} {vs : List (Option Int)} {ns : List Int} (c : Col k vs ns) : ((sumI k vs).rows : Int) - (sumI k vs).nulls = (ns.length : Nat) := by
  show ((vs.length : Nat) : Int) - ((vs.length - (given vs).length : Nat) : Int) = _
  have h := given_len vs
  rw [c.e, srt_len]
  omega
theorem Col.df {k : Bool} {vs : List (Option Int)} {ns : List Int} (c : Col k vs ns) : (sumI k vs).diff = dcnt ns := by rw [c.e]; rfl
theorem Col.bs {k : Bool} {vs : List (Option Int)} {ns : List Int} (c : Col k vs ns) : (sumI k vs).bs = bnds ns := by rw [c.e]; rfl
theorem none_given {vs : List (Option Int)} (h : given vs = []) (k : Bool) : vs.map (oD k) = vs.map (oD false) := by
  refine List.map_congr_left fun o ho => ?_
  cases o with
  | none => rfl
  | some n =>
    have : n ∈ given vs := List.mem_filterMap.mpr ⟨some n, ho, rfl⟩
    rw [h] at this; cases this
def keyK (k : Bool) (n : Int) : List Key := [.inl (if k = true then 2 else 1), if k = true then .inr (tx n) else .inl n]
theorem keyK_rk (k : Bool) (n : Int) : .tup ((keyK k n).map keyD) = rk k n := by cases k <;> rfl
theorem keyK_inj {k : Bool} {a b : Int} (ha : okV k a) (hb : okV k b) (e : keyK k a = keyK k b) : a = b := by
  cases k with
  | false => simpa [keyK] using e
  | true =>
    have e : tx a = tx b := by simpa [keyK] using e
    have := txeq (ha rfl) (hb rfl)
    rw [decide_eq_true e] at this
    exact of_decide_eq_true this.symm
/-- the probes -/
def probes (k : Bool) : List Int := if k = true then [0, 1, 2, 4, 6] else [-1, 0, 3, 7, 30]
theorem probes_ok {k : Bool} {n : Int} (h : n ∈ probes k) : okV k n := fun e => by
  subst e
  simp only [probes, if_true, List.mem_cons, List.not_mem_nil, or_false] at h
  omega
theorem probes_up (k : Bool) : (probes k).Pairwise (· ≤ ·) := by cases k <;> decide
def lastV (s : Sm) (k : Bool) (i : Nat) : Int := if i = 0 then 0 else below s ((probes k).getD (i - 1) 0)
theorem share_eq {s : Sm} {n : Nat} (h : (s.rows : Int) - s.nulls = (n : Nat)) (h0 : s.diff ≠ 0) : eqR s = (((n + s.diff - 1) / s.diff : Nat) : Int) := by
  rw [eqR, if_neg h0, h, Int.natCast_ediv]
  congr 1
  omega
section
variable {E : L2.St → XK} {Δ : En} {X : Addr → Prop} {te tf tg : TE}
theorem ev_share {e : Ex} (h1 : Ev K E te Δ (· = smD K e.s) X) (h2 : Ev K E tf Δ (· = .lst (sdD e.sd)) X) (h3 : Ev K E tg Δ (· = .int e.m) X) (p : ExP e) : Ev K E (tCallS (spEx K) E (tCons (tLst (tCons te tNil)) (tCons tf (tCons tg tNil)))) Δ (· = .int (exV e)) X :=
  ev1_callI e (ea1_cons (ev1_lst (ea1_cons h1 ea_nil)) (ea1_cons h2 (ea1_cons h3 ea_nil))) p rfl
theorem ev_sd {sg : Str} {v : Option (Bool × Int)} (h : Ev K E te Δ (· = .str sg) X) (h2 : Ev K E tf Δ (· = ovD v) X) : Ev K E (tLst (tCons (tTup (tCons (tC (.int 0)) (tCons te (tCons tf tNil)))) tNil)) Δ (· = .lst (sdD (some (sg, v)))) X :=
  ev_is (ev1_lst (ds := [.tup [.int 0, .str sg, ovD v]]) (ea1_cons (ev1_tup (ea1_cons ev_int (ea1_cons h (ea1_cons h2 ea_nil)))) ea_nil)) rfl
end
/-- for many in [0, len(values), 100]: the share lies within -/
theorem many_xs {k : Bool} {vs : List (Option Int)} {n : Int} {sg : Str} {a3 a4 a6 a7 a9 a10 b13 b14 b15 b16 z12 : Sl} (ok : smP (k, vs)) (hl : vs.length ≤ 40) (hn : okV k n) (hs : Sgn sg) {post : Out → Prop}
    (hk : ∀ z, post (.nx [.no, .dice, .dat (.lst (vs.map (oD k))), a3, a4, .dat (smD K (sumI k vs)), a6, a7, .dat (vD k n), a9, a10, .dat (.str sg), z, b13, b14, b15, b16])) :
    Xs K W (tFor (iSeq K (tLst (tCons (tC (.int 0)) (tCons (tCB (rLenC K) (tCons (tVar 2) tNil)) (tCons (tC (.int 100)) tNil))))) (gName 12) (tIfS (tNot (tTest (tChain rLeG rLeG (tC (.int 0)) (tCallS (spEx K) (WE W) (tCons (tLst (tCons (tVar 5) tNil)) (tCons (tLst (tCons (tTup (tCons (tC (.int 0)) (tCons (tVar 11) (tCons (tVar 8) tNil)))) tNil)) (tCons (tVar 12) tNil)))) (tVar 12)))) (tRet (tC (.bl false))) tNext))
      [.no, .dice, .dat (.lst (vs.map (oD k))), a3, a4, .dat (smD K (sumI k vs)), a6, a7, .dat (vD k n), a9, a10, .dat (.str sg), z12, b13, b14, b15, b16] post := by
  refine xs1_for (items := ([0, (vs.length : Int), 100].map D.int)) (ew_inl (ew_list ((ev1_lst (ea1_cons (d := .int 0) ev_int (ea1_cons (d := .int (vs.length : Nat)) (ev_is (ev_lenL (ev_var (d := .lst (vs.map (oD k))) rfl)) (by rw [List.length_map])) (ea1_cons ev_int ea_nil)))).imp fun d e => ⟨_, e, rfl⟩)))
    (fun i Δ' => ∃ z, Δ' = [.no, .dice, .dat (.lst (vs.map (oD k))), a3, a4, .dat (smD K (sumI k vs)), a6, a7, .dat (vD k n), a9, a10, .dat (.str sg), z, b13, b14, b15, b16]) ⟨_, rfl⟩ ?_ ?_
  · rintro i d Δ' hd ⟨z, rfl⟩
    obtain ⟨m, hm, rfl⟩ := of_map_get hd
    have hm' : 0 ≤ m ∧ m ≤ 100 := by
      have := List.mem_of_getElem? hm
      simp only [List.mem_cons, List.not_mem_nil, or_false] at this
      omega
    have hside := side_le (s := sumI k vs) hm'.1 sg (some n)
    refine ⟨[12], _, tg_name, ?_⟩
    refine xs1_if (b := false) (et1_not (b := true) (et1_val (ev_chain (b := true) (y := .int (side (sumI k vs) m sg (some n))) (z := .int m) ev_int (ev_share (e := ⟨sumI k vs, some (sg, some (k, n)), m⟩) (ev_var rfl) (ev_sd (ev_var rfl) (ev_var rfl)) (ev_var rfl)
      ⟨sum_ok ok, hm'.1, by show m ≤ 1000; omega, fun sg' v' e => by cases e; exact hs, fun sg' k' n' e => by cases e; exact .inl ⟨rfl, hn⟩⟩) (OpD.imp od_le fun d e => by rw [e, decide_eq_true hside.1]) (fun _ => ev_var rfl) (fun _ => OpD.imp od_le fun d e => by rw [e, decide_eq_true hside.2]) fun z => nomatch z))) (fun z => nomatch z) fun _ => xs_next ⟨_, rfl⟩
  · rintro Δ' ⟨z, rfl⟩
    exact hk z
/-- the five signs -/
theorem signs_xs {k : Bool} {vs : List (Option Int)} {n : Int} {a3 a4 a6 a7 a9 a10 b13 b14 b15 b16 z11 z12 : Sl} (ok : smP (k, vs)) (hl : vs.length ≤ 40) (hn : okV k n) {post : Out → Prop}
    (hk : ∀ y z, post (.nx [.no, .dice, .dat (.lst (vs.map (oD k))), a3, a4, .dat (smD K (sumI k vs)), a6, a7, .dat (vD k n), a9, a10, y, z, b13, b14, b15, b16])) :
    Xs K W (tFor (iSeq K (tLst (tCons (tC (.str "=")) (tCons (tC (.str "<")) (tCons (tC (.str "<=")) (tCons (tC (.str ">")) (tCons (tC (.str ">=")) tNil))))))) (gName 11) (tFor (iSeq K (tLst (tCons (tC (.int 0)) (tCons (tCB (rLenC K) (tCons (tVar 2) tNil)) (tCons (tC (.int 100)) tNil))))) (gName 12) (tIfS (tNot (tTest (tChain rLeG rLeG (tC (.int 0)) (tCallS (spEx K) (WE W) (tCons (tLst (tCons (tVar 5) tNil)) (tCons (tLst (tCons (tTup (tCons (tC (.int 0)) (tCons (tVar 11) (tCons (tVar 8) tNil)))) tNil)) (tCons (tVar 12) tNil)))) (tVar 12)))) (tRet (tC (.bl false))) tNext)))
      [.no, .dice, .dat (.lst (vs.map (oD k))), a3, a4, .dat (smD K (sumI k vs)), a6, a7, .dat (vD k n), a9, a10, z11, z12, b13, b14, b15, b16] post := by
  refine xs1_for (items := (([ "=", "<", "<=", ">", ">=" ] : List Str).map D.str)) (ew_inl (ew_list ((ev1_lst (ea1_cons ev_str (ea1_cons ev_str (ea1_cons ev_str (ea1_cons ev_str (ea1_cons ev_str ea_nil)))))).imp fun d e => ⟨_, e, rfl⟩)))
    (fun i Δ' => ∃ y z, Δ' = [.no, .dice, .dat (.lst (vs.map (oD k))), a3, a4, .dat (smD K (sumI k vs)), a6, a7, .dat (vD k n), a9, a10, y, z, b13, b14, b15, b16]) ⟨_, _, rfl⟩ ?_ ?_
  · rintro i d Δ' hd ⟨y, z, rfl⟩
    obtain ⟨sg, hsg, rfl⟩ := of_map_get hd
    have hs : Sgn sg := by
      have := List.mem_of_getElem? hsg
      simp only [List.mem_cons, List.not_mem_nil, or_false] at this
      exact this
    exact ⟨[11], _, tg_name, many_xs ok hl hn hs fun z => ⟨_, _, rfl⟩⟩
  · rintro Δ' ⟨y, z, rfl⟩
    exact hk y z
theorem ns_nil {k : Bool} {ns : List Int} : PyData.eqv (D.lst (ns.map (rk k))).py (D.lst []).py = decide (ns = []) := by
  cases ns with
  | nil => rfl
  | cons b bs =>
    show PyData.eqv (.list (_ :: _)) (.list []) = _
    simp [PyData.eqv, PyData.eqvAll]
theorem ns_ok {k : Bool} {bs : List Int} (h : ∀ b ∈ bs, okV k b) : (D.lst (bs.map (rk k))).ok = true := okN_ok (n := 2) (by
  show (bs.map (rk k)).all (okN 1) = true
  rw [List.all_map, List.all_eq_true]
  exact fun b hb => rk_ok (h b hb))
theorem shown_ok {s : Sm} (h : SmOk s) : (D.tup [.int (s.rows : Nat), .int (s.nulls : Nat), .int (s.diff : Nat), .tup (s.bs.map (rk s.k))]).ok = true := okN_ok (n := 3) (by
  show ([D.int _, D.int _, D.int _, D.tup (s.bs.map (rk s.k))].all (okN 2)) = true
  have : okN 2 (D.tup (s.bs.map (rk s.k))) = true := by
    show (s.bs.map (rk s.k)).all (okN 1) = true
    rw [List.all_map, List.all_eq_true]
    exact fun b hb => rk_ok (h.v b hb)
  rw [List.all_cons, List.all_cons, List.all_cons, List.all_cons, this]
  rfl)
theorem ev_probes {E : L2.St → XK} {Δ : En} {X : Addr → Prop} {k : Bool} {vs : List (Option Int)} {ns : List Int} (c : Col k vs ns) (h3 : Δ[3]? = some (.dat (.lst (ns.map (rk k))))) :
    Ev K E (tIf (tOr (tTest (tOp (rEqG K) (tVar 3) (tLst tNil))) (tTest (tOp (rEqG K) (tOp (rIx K) (tOp (rIx K) (tVar 3) (tC (.int 0))) (tC (.int 0))) (tC (.int 1))))) (tLst (tCons (tOp rSubG (tC (.int 0)) (tC (.int 1))) (tCons (tC (.int 0)) (tCons (tC (.int 3)) (tCons (tC (.int 7)) (tCons (tC (.int 30)) tNil)))))) (tLst (tCons (tC (.str "")) (tCons (tC (.str "a")) (tCons (tC (.str "b")) (tCons (tC (.str "bb")) (tCons (tC (.str "z")) tNil))))))) Δ
      (· = .lst ((probes k).map (vD k))) X := by
  refine ev_is (ev1_if (b := !k) (x := .lst ((probes false).map (vD false))) (y := .lst ((probes true).map (vD true))) (et_is (et1_or (a := decide (ns = [])) (b := !k) (et1_val (ev_is (ev1_op (ev_var h3) (ev1_lst ea_nil) (od_eqD (ns_ok c.v) (by decide +kernel))) (by rw [ns_nil]))) fun h0 => ?_) ?_)
    (fun _ => ev1_lst (ea1_cons (d := .int (-1)) (ev_is (ev1_op ev_int ev_int od_sub) rfl) (ea1_cons ev_int (ea1_cons ev_int (ea1_cons ev_int (ea1_cons ev_int ea_nil)))))) fun _ => ev1_lst (ea1_cons ev_str (ea1_cons ev_str (ea1_cons ev_str (ea1_cons ev_str (ea1_cons ev_str ea_nil)))))) ?_
  · have hne : ns ≠ [] := of_decide_eq_false h0
    have hl : 0 < ns.length := List.length_pos_iff.mpr hne
    refine et1_val (ev_is (ev1_op (x := .int (if k = true then 2 else 1)) (ev1_op (x := rk k (ns.getD 0 0)) (ev1_op (ev_var h3) ev_int (od_ixL (rks_atI hl rfl))) ev_int (od_ixT rfl)) ev_int od_eqI) ?_)
    cases k <;> rfl
  · by_cases hn : ns = []
    · rw [decide_eq_true hn, c.z hn]; rfl
    · rw [decide_eq_false hn]; rfl
  · cases k <;> rfl
theorem last_le {s : Sm} {k : Bool} {i : Nat} {n : Int} (hn : s.nulls ≤ s.rows) (h : (probes k)[i]? = some n) : lastV s k i ≤ below s n := by
  have hi := (List.getElem?_eq_some_iff.mp h).1
  have e : (probes k).getD i 0 = n := by rw [List.getD_eq_getElem?_getD, h]; rfl
  unfold lastV
  split
  · exact below_nn hn n
  · refine below_mono hn ?_
    rw [← e]
    exact sorted_get (probes_up k) (by omega) hi
theorem last_snoc {s : Sm} {k : Bool} {i : Nat} {n : Int} (h : (probes k)[i]? = some n) : lastV s k (i + 1) = below s n := by
  have e : (probes k).getD i 0 = n := by rw [List.getD_eq_getElem?_getD, h]; rfl
  unfold lastV
  rw [if_neg (by omega), Nat.add_sub_cancel, e]
theorem ne_self {i : Int} : (!decide (i = i)) = false := by simp
/-- one probe -/
theorem probe_xs {k : Bool} {vs : List (Option Int)} {ns : List Int} {n last : Int} {a4 a6 b13 b14 b15 b16 z9 z10 z11 z12 : Sl} (sc : SC K) (c : Col k vs ns) (hn : okV k n) (hlast : last ≤ below (sumI k vs) n) {post : Out → Prop}
    (hk : ∀ w x y z, post (.nx [.no, .dice, .dat (.lst (vs.map (oD k))), .dat (.lst (ns.map (rk k))), a4, .dat (smD K (sumI k vs)), a6, .dat (.int (below (sumI k vs) n)), .dat (vD k n), w, x, y, z, b13, b14, b15, b16])) :
    Xs K W (tSeq (tAsg (tCB (rLenC K) (tCons (tLc (iSeq K (tFld K (tVar 5) "bounds")) (gName 15) (tTest (tOp (rLtH K) (tVar 15) (tCallS (spRk K) E00 (tCons (tVar 8) tNil)))) (tVar 15) [15]) tNil)) (gName 9))
      (tSeq (tAsg (tIf (tTest (tOp (rEqG K) (tFld K (tVar 5) "bounds") (tTup tNil))) (tC (.int 0)) (tOp rDivG (tOp (rMulG K) (tCB (rLenC K) (tCons (tVar 3) tNil)) (tVar 9)) (tCB (rLenC K) (tCons (tFld K (tVar 5) "bounds") tNil)))) (gName 10))
      (tSeq (tIfS (tOr (tTest (tOp (rNeG K) (tMeth (He.ga K "Summary") "below_rows" (spBl K) [] XF (tVar 5) (tCons (tVar 8) tNil)) (tVar 10))) (tOr (tTest (tOp (rLtH K) (tVar 10) (tVar 7))) (tTest (tOp (rNeG K) (tMeth (He.ga K "Summary") "range_rows" (spRg K) [] XF (tVar 5) (tCons (tVar 8) (tCons (tC .non) tNil))) (tOp rSubG (tCB (rLenC K) (tCons (tVar 3) tNil)) (tVar 10)))))) (tRet (tC (.bl false))) tNext)
      (tSeq (tIfS (tOr (tTest (tOp (rNeG K) (tMeth (He.ga K "Summary") "range_rows" (spRg K) [] XF (tVar 5) (tCons (tC .non) (tCons (tVar 8) tNil))) (tVar 10))) (tTest (tOp (rNeG K) (tMeth (He.ga K "Summary") "range_rows" (spRg K) [] XF (tVar 5) (tCons (tVar 8) (tCons (tVar 8) tNil))) (tC (.int 0))))) (tRet (tC (.bl false))) tNext)
      (tSeq (tAsg (tVar 10) (gName 7))
      (tSeq (tFor (iSeq K (tLst (tCons (tC (.str "=")) (tCons (tC (.str "<")) (tCons (tC (.str "<=")) (tCons (tC (.str ">")) (tCons (tC (.str ">=")) tNil))))))) (gName 11) (tFor (iSeq K (tLst (tCons (tC (.int 0)) (tCons (tCB (rLenC K) (tCons (tVar 2) tNil)) (tCons (tC (.int 100)) tNil))))) (gName 12) (tIfS (tNot (tTest (tChain rLeG rLeG (tC (.int 0)) (tCallS (spEx K) (WE W) (tCons (tLst (tCons (tVar 5) tNil)) (tCons (tLst (tCons (tTup (tCons (tC (.int 0)) (tCons (tVar 11) (tCons (tVar 8) tNil)))) tNil)) (tCons (tVar 12) tNil)))) (tVar 12)))) (tRet (tC (.bl false))) tNext)))
      (tIfS (tOr (tTest (tOp (rNeG K) (tCallS (spEx K) (WE W) (tCons (tLst (tCons (tVar 5) tNil)) (tCons (tLst (tCons (tTup (tCons (tC (.int 0)) (tCons (tC (.str "=")) (tCons (tC .non) tNil)))) tNil)) (tCons (tC (.int 9)) tNil)))) (tC (.int 0)))) (tTest (tOp (rNeG K) (tCallS (spEx K) (WE W) (tCons (tLst (tCons (tVar 5) tNil)) (tCons (tLst tNil) (tCons (tC (.int 9)) tNil)))) (tC (.int 9))))) (tRet (tC (.bl false))) tNext)))))))
      [.no, .dice, .dat (.lst (vs.map (oD k))), .dat (.lst (ns.map (rk k))), a4, .dat (smD K (sumI k vs)), a6, .dat (.int last), .dat (vD k n), z9, z10, z11, z12, b13, b14, b15, b16] post := by
  have ok := sum_ok c.smP
  have hl := c.hl
  have hr := c.rn
  have hnl := c.nl
  have hle := below_le ok.n n
  have hnn := below_nn ok.n n
  have e5 : ∀ {Δ : En} {E : L2.St → XK}, Δ[5]? = some (Sl.dat (smD K (sumI k vs))) → Ev K E (tVar 5) Δ (· = smD K (sumI k vs)) fun _ => False := fun h => ev_var h
  have e8 : ∀ {Δ : En} {E : L2.St → XK}, Δ[8]? = some (Sl.dat (vD k n)) → Ev K E (tVar 8) Δ (· = vD k n) fun _ => False := fun h => ev_var h
  have el : ∀ {Δ : En} {E : L2.St → XK}, Δ[3]? = some (Sl.dat (.lst (ns.map (rk k)))) → Ev K E (tCB (rLenC K) (tCons (tVar 3) tNil)) Δ (· = .int (ns.length : Nat)) fun _ => False := fun h => ev_is (ev_lenL (ev_var h)) (by rw [List.length_map])
  have sn : ∀ m, some n = some m → okV k m := fun m e => by cases e; exact hn
  refine xs_seq (xs1_asg (ev_passed (k := k) (n := n) (ev_bs sc (e5 rfl)) rfl (by decide) (show 15 < 17 by decide) ok.v hn ok.b) (then_nx ?_))
  refine xs_seq (xs1_asg (d := .int (below (sumI k vs) n)) (ev_is (ev1_if (b := decide ((sumI k vs).bs = [])) (x := .int 0) (y := .int (below (sumI k vs) n)) (et1_val (ev_is (ev1_op (ev_bs sc (e5 rfl)) (ev1_tup ea_nil) (od_eqD (bs_ok ok.v) (by decide +kernel))) (by rw [bs_nil]))) (fun _ => ev_int) fun hb => ?_) ?_) (then_nx ?_))
  · have h0 : ¬ (sumI k vs).bs = [] := of_decide_eq_false hb
    have hb0 : 0 < (sumI k vs).bs.length := List.length_pos_iff.mpr h0
    have hb1 := ok.b
    have hp := passed_le (sumI k vs).bs n
    refine ev_is (ev1_op (ev1_op (el rfl) (ev_var rfl) (od_mul (.inr ⟨by omega, by omega⟩))) (ev_is (ev_lenT (ev_bs sc (e5 rfl))) (by rw [List.length_map])) (od_div (cdivw (by omega) (by omega)))) ?_
    rw [below, if_neg h0, hr]
  · by_cases h0 : (sumI k vs).bs = []
    · rw [decide_eq_true h0, below, if_pos h0]; rfl
    · rw [decide_eq_false h0]; rfl
  refine xs_seq (xs1_if (b := false) (et_is (et1_or (a := false) (b := false) (et1_val (ev_is (ev1_op (ev_below (e5 rfl) (e8 rfl) ok hn) (ev_var rfl) od_neI) (by rw [ne_self]))) fun _ => et_is (et1_or (a := false) (b := false) (et1_val (ev_is (ev1_op (ev_var rfl) (ev_var rfl) od_ltI) (by rw [decide_eq_false (by omega)])))
    fun _ => et1_val (ev_is (ev1_op (ev_range (a := some n) (b := none) (e5 rfl) (e8 rfl) ev_non ok sn fun m e => nomatch e) (ev1_op (el rfl) (ev_var rfl) od_sub) od_neI) ?_)) rfl) rfl) (fun z => nomatch z) fun _ => xs_next (then_nx ?_))
  · have : rngR (sumI k vs) (some n) none = (ns.length : Int) - below (sumI k vs) n := by
      show mx 0 (((sumI k vs).rows : Int) - (sumI k vs).nulls - below (sumI k vs) n) = _
      rw [hr] at hle ⊢
      unfold mx
      split <;> omega
    rw [this, ne_self]
  refine xs_seq (xs1_if (b := false) (et_is (et1_or (a := false) (b := false) (et1_val (ev_is (ev1_op (ev_range (a := none) (b := some n) (e5 rfl) ev_non (e8 rfl) ok (fun m e => nomatch e) sn) (ev_var rfl) od_neI) ?_)) fun _ => et1_val (ev_is (ev1_op (ev_range (a := some n) (b := some n) (e5 rfl) (e8 rfl) (e8 rfl) ok sn sn) ev_int od_neI) ?_)) rfl) (fun z => nomatch z) fun _ => xs_next (then_nx ?_))
  · have : rngR (sumI k vs) none (some n) = below (sumI k vs) n := by
      show mx 0 (below (sumI k vs) n - 0) = _
      unfold mx
      split <;> omega
    rw [this, ne_self]
  · have : rngR (sumI k vs) (some n) (some n) = 0 := by
      show mx 0 (below (sumI k vs) n - below (sumI k vs) n) = _
      unfold mx
      split <;> omega
    rw [this, ne_self]
  refine xs_seq (xs1_asg (ev_var rfl) (then_nx ?_))
  refine xs_seq (signs_xs c.smP hl hn fun y z => then_nx ?_)
  refine xs1_if (b := false) (et_is (et1_or (a := false) (b := false) (et1_val (ev_is (ev1_op (ev_share (e := ⟨sumI k vs, some ("=", none), 9⟩) (e5 rfl) (ev_sd ev_str ev_non) ev_int ⟨ok, (show (0 : Int) ≤ 9 by decide), (show (9 : Int) ≤ 1000 by decide), fun sg' v' e => by cases e; exact .inl rfl, fun sg' k' n' e => nomatch e⟩) ev_int od_neI) ?_))
    fun _ => et1_val (ev_is (ev1_op (ev_share (e := ⟨sumI k vs, none, 9⟩) (e5 rfl) (ev1_lst (ds := []) ea_nil) ev_int ⟨ok, (show (0 : Int) ≤ 9 by decide), (show (9 : Int) ≤ 1000 by decide), (fun sg' v' e => nomatch e), (fun sg' k' n' e => nomatch e)⟩) ev_int od_neI) ?_)) rfl) (fun z => nomatch z) fun _ => xs_next (hk _ _ _ _)
  · rfl
  · rfl
end
end K28


namespace K28
open PySem PySem.Spec PyProof.Rows L2 Ts
section
variable [Tt] {K : PySem.W.Frag} {W : WX}
theorem given_col1 (n : Nat) : given (col1 n) = (List.range n).map fun j : Nat => (j : Int) := by
  unfold given col1
  rw [List.filterMap_map]
  have : (id ∘ fun j : Nat => some (j : Int)) = some ∘ fun j : Nat => (j : Int) := rfl
  rw [this, ← List.filterMap_map, List.filterMap_some]
theorem col1_diff (n : Nat) : (sumI false (col1 n)).diff = n := by
  show dcnt (srt (given (col1 n))) = n
  have hp := srt_perm (given (col1 n))
  have hd : (given (col1 n)).Nodup := by
    rw [given_col1]
    refine List.pairwise_map.mpr (List.Pairwise.imp (R := fun a b : Nat => a ≠ b) (fun {a b} h => ?_) List.nodup_range)
    show (a : Int) ≠ (b : Int)
    omega
  rw [dcnt_nodup (hp.nodup_iff.mpr hd), hp.length_eq, given_col1, List.length_map, List.length_range]
theorem ev_lens {E : L2.St → XK} {Δ : En} {X : Addr → Prop} {i : Nat} {k : Bool} {vs : List (Option Int)} (h : Δ[i]? = some (Sl.dat (.lst (vs.map (oD k))))) : Ev K E (tCB (rLenC K) (tCons (tVar i) tNil)) Δ (· = .int (vs.length : Nat)) X := ev_is (ev_lenL (ev_var h)) (by rw [List.length_map])
theorem body_xs (sc : SC K) : Xs K W (bT K W) (Sl.no :: Sl.dice :: List.replicate 15 Sl.no) (lPost 15) := by
  refine xs_seq (xs_asg (R := fun d => ∃ (k : Bool) (vs : List (Option Int)), d = .lst (vs.map (oD k)) ∧ okC k vs ∧ vs.length ≤ 40) (X := fun _ => False) (ev_callq rfl ea_nil (fun _ e => e) (fun ds d _ ⟨k, vs, e, h⟩ => ⟨k, vs, by injection e, h⟩) fun ds C _ ⟨k, vs, e, _⟩ => nomatch e) (fun _ z => z.elim) fun d hd => ?_)
  obtain ⟨k, vs, ns, rfl, c⟩ : ∃ k vs ns, d = .lst (vs.map (oD k)) ∧ Col k vs ns := by
    obtain ⟨k, vs, rfl, h1, h2⟩ := hd
    by_cases h0 : given vs = []
    · exact ⟨false, vs, _, by rw [none_given h0 k], (fun a _ z => nomatch z), h2, rfl, fun _ => rfl⟩
    · refine ⟨k, vs, _, rfl, h1, h2, rfl, fun z => ?_⟩
      have := srt_len (given vs)
      rw [z] at this
      exact absurd (List.eq_nil_of_length_eq_zero this.symm) h0
  refine then_nx ?_
  have ok := sum_ok c.smP
  have hl := c.hl
  have hnl := c.nl
  have hr := c.rn
  have en : srt (given vs) = ns := c.e.symm
  -- known
  refine xs_seq (xs1_asg (d := .lst (ns.map (rk k))) (ev_is (ev1_cb (ea1_cons (ev_filt (xs := vs) (oD k) (fun o => rk k (o.getD 0)) Option.isSome (ew_inl (ew_list ((ev_var (d := .lst (vs.map (oD k))) rfl).imp fun d e => ⟨_, e, rfl⟩))) (by omega) fun i o ho => ⟨[8], _, (fun _ h => h), tg_name, et_is (et1_val (ev1_op (ev_var (d := oD k o) rfl) ev_non od_notN)) (oD_notN k o), fun hs => ?_⟩) ea_nil)
    (cd_sort (fun d hd => ?_) ?_)) ?_) (then_nx ?_))
  · cases o with
    | none => cases hs
    | some n => exact ev_rank (ev_var (d := vD k n) rfl)
  · obtain ⟨o, _, rfl⟩ := List.mem_map.mp hd
    exact rk_pure k _
  · rw [given_rk]
    exact rk_can k _
  · rw [srt_is c.ok, en]
  -- different
  refine xs_seq (xs1_asg (d := .int (dcnt ns : Nat)) (ev_is (ev_lenDict (kds := ns.map fun n => (keyK k n, D.int 1)) (ev_is (ev1_lc (items := ns.map (rk k)) (fun _ d => .tup [d, .int 1]) (ew_inl (ew_list ((ev_var (d := .lst (ns.map (rk k))) rfl).imp fun d e => ⟨_, e, rfl⟩))) (by rw [List.length_map]; omega) fun i d hd => ⟨[15], _, (fun _ h => h), tg_name, ev1_tup (ea1_cons (ev_var rfl) (ea1_cons ev_int ea_nil))⟩) ?_)) ?_) (then_nx ?_))
  · congr 1
    refine List.ext_getElem? fun i => ?_
    rw [List.getElem?_mapIdx, List.getElem?_map, List.getElem?_map, List.getElem?_map]
    cases ns[i]? with
    | none => rfl
    | some n =>
      show some (D.tup [rk k n, .int 1]) = some (D.tup [.tup ((keyK k n).map keyD), .int 1])
      rw [keyK_rk]
  · rw [List.map_map]
    show D.int (((once [] (ns.map (keyK k))).length : Nat) : Int) = _
    rw [dcnt_once (keyK k) c.so fun a ha b hb e => keyK_inj (c.v a ha) (c.v b hb) e]
  -- summary
  refine xs_seq (xs1_asg (d := smD K (sumI k vs)) (ev1_callI (k, vs) (ea1_cons (ev_var rfl) ea_nil) c.smP rfl) (then_nx ?_))
  have el : ∀ {Δ : En} {E : L2.St → XK}, Δ[3]? = some (Sl.dat (.lst (ns.map (rk k)))) → Ev K E (tCB (rLenC K) (tCons (tVar 3) tNil)) Δ (· = .int (ns.length : Nat)) fun _ => False := fun h => ev_is (ev_lenL (ev_var h)) (by rw [List.length_map])
  have e5 : ∀ {Δ : En} {E : L2.St → XK}, Δ[5]? = some (Sl.dat (smD K (sumI k vs))) → Ev K E (tVar 5) Δ (· = smD K (sumI k vs)) fun _ => False := fun h => ev_var h
  refine xs_seq (xs1_if (b := false) (et1_val (ev1_op (ev_shown (e5 rfl)) (ev1_tup (ea1_cons (ev_lens (k := k) (vs := vs) rfl) (ea1_cons (ev1_op (ev_lens (k := k) (vs := vs) rfl) (el rfl) od_sub) (ea1_cons (ev_var rfl) (ea1_cons (ev1_callI (k, ns) (ea1_cons (ev_var rfl) ea_nil) (show ns.length ≤ 1000 by omega) rfl) ea_nil))))) (od_neSelf (shown_ok ok) ?_))) (fun z => nomatch z) fun _ => xs_next (then_nx ?_))
  · have h1 : ((sumI k vs).nulls : Int) = (vs.length : Int) - (ns.length : Int) := by
      have : ((sumI k vs).rows : Int) = (vs.length : Nat) := rfl
      omega
    rw [h1, c.df, c.bs]
    rfl
  -- share
  refine xs_seq (xs1_asg (d := .int (eqR (sumI k vs))) (ev_is (ev1_if (b := decide ((dcnt ns : Int) = 0)) (x := .int 0) (y := .int (eqR (sumI k vs))) (et1_val (ev1_op (ev_var (d := .int (dcnt ns : Nat)) rfl) ev_int od_eqI)) (fun _ => ev_int) fun hb => ?_) ?_) (then_nx ?_))
  · have h0 : dcnt ns ≠ 0 := by have := of_decide_eq_false hb; omega
    have hd := dcnt_le ns
    refine ev_is (ev1_cb (ea1_cons ev_int (ea1_cons (el rfl) (ea1_cons (ev_var (d := .int (dcnt ns : Nat)) rfl) ea_nil))) (cd_lenRng3 (RgC.up (n := ns.length) (l := dcnt ns) (by omega) (by omega) (by omega)) ?_)) ?_
    · have h1 := Nat.div_le_self (ns.length + dcnt ns - 1) (dcnt ns)
      omega
    · rw [share_eq hr (by rw [c.df]; exact h0), c.df]
  · by_cases h0 : dcnt ns = 0
    · have : (sumI k vs).diff = 0 := by rw [c.df]; exact h0
      rw [decide_eq_true (by omega), eqR, if_pos this]; rfl
    · rw [decide_eq_false (by omega)]; rfl
  refine xs_seq (xs1_if (b := false) (et1_val (ev_is (ev1_op (ev_equal (e5 rfl) ok) (ev_var rfl) od_neI) (by rw [ne_self]))) (fun z => nomatch z) fun _ => xs_next (then_nx ?_))
  refine xs_seq (xs1_asg ev_int (then_nx ?_))
  -- the probes
  refine xs_seq (xs1_for (items := (probes k).map (vD k)) (ew_inl (ew_list ((ev_probes c rfl).imp fun d e => ⟨_, e, rfl⟩)))
    (fun i Δ' => ∃ v w x y z, Δ' = [.no, .dice, .dat (.lst (vs.map (oD k))), .dat (.lst (ns.map (rk k))), .dat (.int (dcnt ns : Nat)), .dat (smD K (sumI k vs)), .dat (.int (eqR (sumI k vs))), .dat (.int (lastV (sumI k vs) k i)), v, w, x, y, z, .no, .no, .no, .no]) ⟨_, _, _, _, _, rfl⟩ ?_ ?_)
  · rintro i d Δ' hd ⟨v, w, x, y, z, rfl⟩
    obtain ⟨n, hn, rfl⟩ := of_map_get hd
    refine ⟨[8], _, tg_name, probe_xs sc c (probes_ok (List.mem_of_getElem? hn)) (last_le ok.n hn) fun w x y z => ?_⟩
    show ∃ v w x y z, _
    rw [last_snoc hn]
    exact ⟨_, _, _, _, _, rfl⟩
  rintro Δ' ⟨v, w, x, y, z, rfl⟩
  refine then_nx ?_
  -- rows
  refine xs_seq (xs1_asg (d := rowsD k vs) (ev_is (ev1_lc (items := enumD (vs.map (oD k))) (fun j _ => .tup [oD k (vs.getD j none), .int (j : Nat)]) (ew_enum ((ev_var (d := .lst (vs.map (oD k))) rfl).imp fun d e => ⟨_, e, rfl⟩)) (by rw [enumD_len, List.length_map]; omega) fun j d hd => ?_) ?_) (then_nx ?_))
  · obtain ⟨e, he, rfl⟩ := enumD_of hd
    obtain ⟨o, ho, rfl⟩ := of_map_get he
    refine ⟨[16, 8], _, (fun _ h => h), tg2, ?_⟩
    rw [List.getD_eq_getElem?_getD, ho]
    exact ev1_tup (ea1_cons (ev_var rfl) (ea1_cons (ev_var rfl) ea_nil))
  · unfold rowsD
    congr 1
    refine List.ext_getElem? fun j => ?_
    rw [List.getElem?_mapIdx, List.getElem?_mapIdx]
    by_cases hj : j < vs.length
    · rw [enumD_get (d := oD k vs[j]) (by rw [List.getElem?_map, List.getElem?_eq_getElem hj]; rfl), List.getElem?_eq_getElem hj]
      simp [List.getD_eq_getElem?_getD, List.getElem?_eq_getElem hj]
    · rw [List.getElem?_eq_none (by rw [enumD_len, List.length_map]; omega), List.getElem?_eq_none (by omega)]; rfl
  refine xs_seq (xs1_asg (d := .tup [smD K (sumI k vs), smD K (sumI false (col1 vs.length))]) (ev1_callI (k, vs) (ea1_cons (ev_var rfl) (ea1_cons ev_int ea_nil)) c.smP rfl) (then_nx ?_))
  have eb : ∀ {Δ : En} {E : L2.St → XK}, Δ[14]? = some (Sl.dat (.tup [smD K (sumI k vs), smD K (sumI false (col1 vs.length))])) → Ev K E (tVar 14) Δ (· = .tup [smD K (sumI k vs), smD K (sumI false (col1 vs.length))]) fun _ => False := fun h => ev_var h
  refine xs_seq (xs1_if (b := false) (et_is (et1_or (a := false) (b := false) (et1_val (ev_is (ev1_op (ev_lenT (eb rfl)) ev_int od_neI) rfl)) fun _ => et_is (et1_or (a := false) (b := false) (et1_val (ev1_op (ev_shown (s := sumI k vs) (ev1_op (eb rfl) ev_int (od_ixT rfl))) (ev_shown (e5 rfl)) (od_neSelf (shown_ok ok) rfl)))
    fun _ => et1_val (ev_is (ev1_op (ev_diff sc (s := sumI false (col1 vs.length)) (ev1_op (eb rfl) ev_int (od_ixT rfl))) (ev_lens (k := k) (vs := vs) rfl) od_neI) (by rw [col1_diff, ne_self]))) rfl) rfl) (fun z => nomatch z) fun _ => xs_next (then_nx ?_))
  refine xs1_if (b := false) (et_is (et1_and (a := decide ((0 : Int) < (vs.length : Nat))) (b := false) (et1_val (ev1_op (ev_lens (k := k) (vs := vs) rfl) ev_int od_gt)) fun h0 => et1_val (ev_is (ev1_op (ev_share (e := ⟨sumI k vs, some ("=", some (false, 3)), (vs.length : Nat)⟩) (e5 rfl) (ev_sd ev_str ev_int) (ev_lens (k := k) (vs := vs) rfl)
    ⟨ok, (show (0 : Int) ≤ (vs.length : Nat) by omega), (show ((vs.length : Nat) : Int) ≤ 1000 by omega), fun sg' v' e => by cases e; exact .inl rfl, fun sg' k' n' e => by cases e; exact .inr rfl⟩) (ev1_cb (ea1_cons (ev_var rfl) (ea1_cons (ev_lens (k := k) (vs := vs) rfl) ea_nil)) cd_min) od_neI) ?_)) (Bool.and_false _)) (fun z => nomatch z) fun _ => xs_next ⟨rfl, rfl⟩
  have h0 := of_decide_eq_true h0
  have : exV ⟨sumI k vs, some ("=", some (false, 3)), (vs.length : Nat)⟩ = mn (eqR (sumI k vs)) (vs.length : Nat) := side_eq (s := sumI k vs) (show 0 < vs.length by omega) ok.n 3
  rw [this]
  exact congrArg D.bl ne_self
theorem end_law (sc : SC K) : Xs K W (tRet (fT K W)) (Sl.no :: Sl.dice :: List.replicate 15 Sl.no) (· = .rt (.bl true)) := by
  have mk : ∀ {Δ : En} (a b c : Nat) (bs : List Int) {te : TE}, Ev K (WE W) te Δ (· = .tup (bs.map (rk false))) (fun _ => False) → Ev K (WE W) (tMake (He.ga K "Summary") (spNw K) [] XF (tCons (tC (.int (a : Nat))) (tCons (tC (.int (b : Nat))) (tCons (tC (.int (c : Nat))) (tCons te tNil))))) Δ (· = smD K ⟨a, b, c, false, bs⟩) fun _ => False := fun a b c bs te h =>
    ev_is (ev_make (ds := [.int (a : Nat), .int (b : Nat), .int (c : Nat), seqD false (bs.map (rk false))]) (ea1_cons ev_int (ea1_cons ev_int (ea1_cons ev_int (ea1_cons h ea_nil)))) ⟨_, _, _, false, _, rfl⟩) (by rw [initF_eq])
  have o1 : SmOk ⟨4, 1, 3, false, [2]⟩ := ⟨by decide, by decide, by decide, by decide, fun b _ z => nomatch z⟩
  have o2 : SmOk ⟨0, 0, 0, false, []⟩ := ⟨by decide, by decide, by decide, by decide, fun b _ z => nomatch z⟩
  refine xs1_ret (d := .bl true) (ev_is (ev1_andV (a := true) (b := true) (ev_is (ev1_op (ev_equal (s := ⟨4, 1, 3, false, [2]⟩) (mk 4 1 3 [2] (ev1_tup (ea1_cons (ev1_tup (ea1_cons ev_int (ea1_cons ev_int ea_nil))) ea_nil))) o1) ev_int od_eqI) rfl) fun _ => ev_is (ev1_op (ev_below (s := ⟨0, 0, 0, false, []⟩) (n := 5) (mk 0 0 0 [] (ev1_tup ea_nil)) ev_int o2 fun z => nomatch z) ev_int od_eqI) rfl) rfl) rfl
end
end K28


namespace K28
open PySem PySem.Spec PyProof.Rows L2 Ts
abbrev FD (K : PySem.W.Frag) (x q : Str) (st : Stmt) (f : Addr) (fd : FuncData) : Prop := FunD K x q (defArgs st) (defBody st) (defScope st) [] [] f fd
section
variable [Tt] {P : Program} {w : World} {K : PySem.W.Frag} {mg : Str → Option Value} {base : Heap} {f : Addr} {fd : FuncData}
theorem cal_kind_of (t : Txt K mg) (F : FD K "kind_of" "kind_of" s_kind_of f fd) (M : mg "kind_of" = some (.ref f)) : Cal P w K mg base 1 "kind_of" (spKo K) :=
  cal_of (fn_I (t := fun W => t_kind_of K W) F sc_kind_of (fun _ => rfl) (fun cdv A outer s H E hr => der_kind_of t hr) (fun W i _ => kind_xs i)) M F.kp (F.bindsN fun _ _ _ _ _ _ us hl => match us, hl with | [_], _ => rfl)
theorem new_Summary (t : Txt K mg) (sc : SC K) (Mk_ : Mk K (He.ga K "Summary") f) (F : FD K "__init__" "Summary.__init__" s_Summary___init__ f fd) (M : mg "Summary" = some (.ref (He.ga K "Summary"))) : New P w K mg base 1 "Summary" (He.ga K "Summary") (spNw K) :=
  ⟨⟨f, fd, _, Mk_, fn_new F sc_Summary___init__ (fun ds ⟨_, _, _, _, _, e⟩ => by rw [e]; rfl) (fun cdv A outer s H E hr => der_Summary___init__ t hr) (init_ok sc.c sc.n1 sc.n2 sc.n3 sc.n4), M, F.bindsN fun _ _ _ _ _ _ us hl => match us, hl with | [_, _, _, _, _], _ => rfl⟩⟩
theorem mth_Summary_shown (t : Txt K mg) (sc : SC K) (C_ : Cls K (He.ga K "Summary")) (Me : Meth K (He.ga K "Summary") "shown" f) (F : FD K "shown" "Summary.shown" s_Summary_shown f fd) : Mth P w K mg base 1 (He.ga K "Summary") "shown" (spSh K) :=
  ⟨⟨_, fd, _, C_, Me, fn_I (t := fun W => t_Summary_shown K W) F sc_Summary_shown (fun _ => rfl) (fun cdv A outer s H E hr => der_Summary_shown t hr) (fun W i _ => shown_xs sc i), F.bindsN fun _ _ _ _ _ _ us hl => match us, hl with | [_], _ => rfl⟩⟩
theorem mth_Summary_equal_rows (t : Txt K mg) (sc : SC K) (C_ : Cls K (He.ga K "Summary")) (Me : Meth K (He.ga K "Summary") "equal_rows" f) (F : FD K "equal_rows" "Summary.equal_rows" s_Summary_equal_rows f fd) : Mth P w K mg base 1 (He.ga K "Summary") "equal_rows" (spEq K) :=
  ⟨⟨_, fd, _, C_, Me, fn_I (t := fun W => t_Summary_equal_rows K W) F sc_Summary_equal_rows (fun _ => rfl) (fun cdv A outer s H E hr => der_Summary_equal_rows t hr) (fun W i h => equal_xs sc i h), F.bindsN fun _ _ _ _ _ _ us hl => match us, hl with | [_], _ => rfl⟩⟩
theorem cal__law_dice (t : Txt K mg) (F : FD K "_law_dice" "_law_dice" s__law_dice f fd) (M : mg "_law_dice" = some (.ref f)) : Cal P w K mg base 1 "_law_dice" (spDice K) :=
  cal_of (fn_D F sc__law_dice (fun ds ⟨_, e⟩ => by rw [e]; rfl) (fun cdv A outer s H E hr => der__law_dice t hr) (fun W ds h => dice_xs h)) M F.kp (F.bindsN fun _ _ _ _ _ _ us hl => match us, hl with | [_], _ => rfl)
theorem cal__law_roll (t : Txt K mg) (F : FD K "_law_roll" "_law_roll" s__law_roll f fd) (M : mg "_law_roll" = some (.ref f)) : Cal P w K mg base 1 "_law_roll" (spRoll K) :=
  cal_of (fn_Q (t := fun W => t__law_roll K W) F sc__law_roll (fun ds ⟨_, e, _⟩ => by rw [e]; rfl) (fun cdv A outer s H E hr => der__law_roll t hr) (fun W ds h => roll_xs h)) M F.kp (F.bindsN fun _ _ _ _ _ _ us hl => match us, hl with | [_, _], _ => rfl)
theorem cal__law_bounds (t : Txt K mg) (F : FD K "_law_bounds" "_law_bounds" s__law_bounds f fd) (M : mg "_law_bounds" = some (.ref f)) : Cal P w K mg base 1 "_law_bounds" (spLb K) :=
  cal_of (fn_I (t := fun W => t__law_bounds K W) F sc__law_bounds (fun _ => rfl) (fun cdv A outer s H E hr => der__law_bounds t hr) (fun W i h => lbounds_xs i h)) M F.kp (F.bindsN fun _ _ _ _ _ _ us hl => match us, hl with | [_], _ => rfl)
theorem cal_rank (t : Txt K mg) (c_kind_of : Cal P w K mg base 1 "kind_of" (spKo K)) (F : FD K "rank" "rank" s_rank f fd) (M : mg "rank" = some (.ref f)) : Cal P w K mg base 2 "rank" (spRk K) :=
  cal_of (fn_I (t := fun W => t_rank K W (spKo K)) F sc_rank (fun _ => rfl) (fun cdv A outer s H E hr => der_rank t c_kind_of hr) (fun W i _ => rank_xs i)) M F.kp (F.bindsN fun _ _ _ _ _ _ us hl => match us, hl with | [_], _ => rfl)
theorem cal__law_rounds (t : Txt K mg) (c__law_dice : Cal P w K mg base 1 "_law_dice" (spDice K)) (F : FD K "_law_rounds" "_law_rounds" s__law_rounds f fd) (M : mg "_law_rounds" = some (.ref f)) : Cal P w K mg base 2 "_law_rounds" (spRounds K) :=
  cal_of (fn_H (t := fun W => t__law_rounds K W (spDice K)) F sc__law_rounds (fun vs H Q E ⟨_, _, e, _⟩ => by rw [e]; rfl) (fun cdv A outer s H E e hr => der__law_rounds t c__law_dice hr) (fun W vs H Q E h => rounds_pure (W := W) h)) M F.kp (F.bindsN fun _ _ _ _ _ _ us hl => match us, hl with | [_, _], _ => rfl)
theorem cal__law_values (t : Txt K mg) (c__law_roll : Cal P w K mg base 1 "_law_roll" (spRoll K)) (F : FD K "_law_values" "_law_values" s__law_values f fd) (M : mg "_law_values" = some (.ref f)) : Cal P w K mg base 2 "_law_values" (spLv K) :=
  cal_of (fn_Q (t := fun W => t__law_values K W (spRoll K)) F sc__law_values (fun ds e => by rw [e]; rfl) (fun cdv A outer s H E hr => der__law_values t c__law_roll hr) (fun W ds h => lvalues_xs h)) M F.kp (F.bindsN fun _ _ _ _ _ _ us hl => match us, hl with | [_], _ => rfl)
theorem mth_Summary_below_rows (t : Txt K mg) (sc : SC K) (c_rank : Cal P w K mg base 2 "rank" (spRk K)) (C_ : Cls K (He.ga K "Summary")) (Me : Meth K (He.ga K "Summary") "below_rows" f) (F : FD K "below_rows" "Summary.below_rows" s_Summary_below_rows f fd) : Mth P w K mg base 3 (He.ga K "Summary") "below_rows" (spBl K) :=
  ⟨⟨_, fd, _, C_, Me, fn_I (t := fun W => t_Summary_below_rows K W (spRk K)) F sc_Summary_below_rows (fun _ => rfl) (fun cdv A outer s H E hr => der_Summary_below_rows t c_rank hr) (fun W i h => below_xs sc i h), F.bindsN fun _ _ _ _ _ _ us hl => match us, hl with | [_, _], _ => rfl⟩⟩
theorem mth_Summary_range_rows (t : Txt K mg) (sc : SC K) (m_Summary_below_rows : Mth P w K mg base 3 (He.ga K "Summary") "below_rows" (spBl K)) (C_ : Cls K (He.ga K "Summary")) (Me : Meth K (He.ga K "Summary") "range_rows" f) (F : FD K "range_rows" "Summary.range_rows" s_Summary_range_rows f fd) : Mth P w K mg base 4 (He.ga K "Summary") "range_rows" (spRg K) :=
  ⟨⟨_, fd, _, C_, Me, fn_I (t := fun W => t_Summary_range_rows K W (spBl K)) F sc_Summary_range_rows (fun _ => rfl) (fun cdv A outer s H E hr => der_Summary_range_rows t m_Summary_below_rows hr) (fun W i h => range_xs sc i h), F.bindsN fun _ _ _ _ _ _ us hl => match us, hl with | [_, _, _], _ => rfl⟩⟩
theorem cal_expected_share (t : Txt K mg) (sc : SC K) (m_Summary_below_rows : Mth P w K mg base 3 (He.ga K "Summary") "below_rows" (spBl K)) (m_Summary_equal_rows : Mth P w K mg base 1 (He.ga K "Summary") "equal_rows" (spEq K)) (m_Summary_range_rows : Mth P w K mg base 4 (He.ga K "Summary") "range_rows" (spRg K)) (F : FD K "expected_share" "expected_share" s_expected_share f fd) (M : mg "expected_share" = some (.ref f)) : Cal P w K mg base 5 "expected_share" (spEx K) :=
  cal_of (fn_I (t := fun W => t_expected_share K W (spBl K) (spEq K) (spRg K)) F sc_expected_share (fun _ => rfl) (fun cdv A outer s H E hr => der_expected_share t m_Summary_below_rows m_Summary_equal_rows m_Summary_range_rows hr) (fun W i h => share_xs sc i h)) M F.kp (F.bindsN fun _ _ _ _ _ _ us hl => match us, hl with | [_, _, _], _ => rfl)
theorem cal_summarize (t : Txt K mg) (c_rank : Cal P w K mg base 2 "rank" (spRk K)) (n_Summary : New P w K mg base 1 "Summary" (He.ga K "Summary") (spNw K)) (TB : LamX.TabB base mg (He.cT K ("summarize", none)).1 (He.cT K ("summarize", none)).2) (hmT : ((He.cT K ("summarize", none)).2, genQ_summarize) ∈ Tt.tb) (hu : ∀ p ∈ Tt.tb, p.1 = (He.cT K ("summarize", none)).2 → p.2 = genQ_summarize) (F : FD K "summarize" "summarize" s_summarize (He.fAd K ("summarize", none)) fd) (M : mg "summarize" = some (.ref (He.fAd K ("summarize", none)))) : Cal P w K mg base 9 "summarize" (spSm K) :=
  cal_of (fn_IH (t := fun W => t_summarize K W (spRk K) (spNw K)) F sc_summarize (fun _ => rfl) (fun cdv A outer s H E e hr => der_summarize t c_rank n_Summary TB hmT hu (e.symm.trans (code_of (q := ("summarize", none)) F)) hr) (fun W i h => summarize_xs i h)) M F.kp (F.bindsN fun _ _ _ _ _ _ us hl => match us, hl with | [_], _ => rfl)
theorem cal_summarize_rows (t : Txt K mg) (c_summarize : Cal P w K mg base 9 "summarize" (spSm K)) (TB : LamX.TabB base mg (He.cT K ("summarize_rows", none)).1 (He.cT K ("summarize_rows", none)).2) (hmT : ((He.cT K ("summarize_rows", none)).2, genQ_summarize_rows) ∈ Tt.tb) (hu : ∀ p ∈ Tt.tb, p.1 = (He.cT K ("summarize_rows", none)).2 → p.2 = genQ_summarize_rows) (F : FD K "summarize_rows" "summarize_rows" s_summarize_rows (He.fAd K ("summarize_rows", none)) fd) (M : mg "summarize_rows" = some (.ref (He.fAd K ("summarize_rows", none)))) : Cal P w K mg base 16 "summarize_rows" (spSr K) :=
  cal_of (fn_IH (t := fun W => t_summarize_rows K W (spSm K)) F sc_summarize_rows (fun _ => rfl) (fun cdv A outer s H E e hr => der_summarize_rows t c_summarize TB hmT hu (e.symm.trans (code_of (q := ("summarize_rows", none)) F)) hr) (fun W i h => rows_xs i h)) M F.kp (F.bindsN fun _ _ _ _ _ _ us hl => match us, hl with | [_, _], _ => rfl)
end
/-! ### the head -/
def dF (a : Str × Option Str) (x q : Str) (s : Stmt) : He.DefD := ⟨a, x, q, defArgs s, defBody s, defScope s, [], []⟩
def fn : List He.DefD := [dF ("kind_of", none) "kind_of" "kind_of" s_kind_of, dF ("Summary", some "__init__") "__init__" "Summary.__init__" s_Summary___init__, dF ("Summary", some "shown") "shown" "Summary.shown" s_Summary_shown, dF ("Summary", some "equal_rows") "equal_rows" "Summary.equal_rows" s_Summary_equal_rows, dF ("_law_dice", none) "_law_dice" "_law_dice" s__law_dice, dF ("_law_roll", none) "_law_roll" "_law_roll" s__law_roll, dF ("_law_bounds", none) "_law_bounds" "_law_bounds" s__law_bounds, dF ("rank", none) "rank" "rank" s_rank, dF ("_law_rounds", none) "_law_rounds" "_law_rounds" s__law_rounds, dF ("_law_values", none) "_law_values" "_law_values" s__law_values, dF ("Summary", some "below_rows") "below_rows" "Summary.below_rows" s_Summary_below_rows, dF ("Summary", some "range_rows") "range_rows" "Summary.range_rows" s_Summary_range_rows, dF ("expected_share", none) "expected_share" "expected_share" s_expected_share, dF ("summarize", none) "summarize" "summarize" s_summarize, dF ("summarize_rows", none) "summarize_rows" "summarize_rows" s_summarize_rows, dF ("law", none) "law" "law" s_law]
def fa : List He.Fa := [.glo "kind_of", .glo "_law_dice", .glo "_law_roll", .glo "_law_bounds", .glo "rank", .glo "_law_rounds", .glo "_law_values", .glo "expected_share", .glo "summarize", .glo "summarize_rows", .glo "law", .glo "Summary", .free "abs", .free "dict", .free "enumerate", .free "int", .free "isinstance", .free "len", .free "max", .free "min", .free "range", .free "sorted", .free "str", .free "tuple", .cls "Summary", .mkr "Summary", .meth "Summary" "shown", .meth "Summary" "equal_rows", .meth "Summary" "below_rows", .meth "Summary" "range_rows", .noat "Summary" "rows", .noat "Summary" "nulls", .noat "Summary" "different", .noat "Summary" "bounds", .int "BUCKETS" 8]
def tf : List He.Defn := [("summarize", none), ("summarize_rows", none)]
def tbl (K : PySem.W.Frag) : Tb := [((He.cT K ("summarize", none)).2, genQ_summarize), ((He.cT K ("summarize_rows", none)).2, genQ_summarize_rows)]
def exB (K : PySem.W.Frag) : Bool := decide (((tf.map fun p => (He.cT K p).2).Nodup))
abbrev R : PySem.W.OpenRow := PySem.W.OpenLaw.row PySem.Challenge.rw_tablestack_k28_what_is_known_of_columns
abbrev hk : PySem.W.Hook := He.hookX 5 fa fn [] tf exB
def ob (s : PySem.W.SharedT) : He.AlX := He.obsX 5 fa fn [] tf exB (HandSHeadRun.getT s)
theorem ob_eq (s : PySem.W.SharedT) : ob s = hk.obs s.abs := He.obsX_eq (HandSHeadRun.getT_eq s)
abbrev loose : List Str := ["kind_of", "rank", "BUCKETS", "Summary", "summarize", "summarize_rows", "expected_share", "_law_dice", "_law_roll", "_law_rounds", "_law_values", "_law_bounds"]
theorem run (w : World) : HandSHeadRun.RunEq R (PySem.W.view R.prog [15]) hk ob 6000 loose w := by
  intro os
  kernel_rfl
theorem law_ok [Tt] {P : Program} {w : World} {K : PySem.W.Frag} {mg : Str → Option Value} {base : Heap} (t : Txt K mg) (sc : SC K)
    {fd : FuncData} (F : FD K "law" "law" s_law (He.fAd K ("law", none)) fd) (hTc : ∀ p ∈ Tt.tb, p.1 ∈ tf.map fun p => (He.cT K p).2) (c__law_bounds : Cal P w K mg base 1 "_law_bounds" (spLb K)) (c__law_rounds : Cal P w K mg base 2 "_law_rounds" (spRounds K)) (c__law_values : Cal P w K mg base 2 "_law_values" (spLv K)) (c_expected_share : Cal P w K mg base 5 "expected_share" (spEx K)) (c_rank : Cal P w K mg base 2 "rank" (spRk K)) (c_summarize : Cal P w K mg base 9 "summarize" (spSm K)) (c_summarize_rows : Cal P w K mg base 16 "summarize_rows" (spSr K)) (n_Summary : New P w K mg base 1 "Summary" (He.ga K "Summary") (spNw K)) (m_Summary_below_rows : Mth P w K mg base 3 (He.ga K "Summary") "below_rows" (spBl K)) (m_Summary_equal_rows : Mth P w K mg base 1 (He.ga K "Summary") "equal_rows" (spEq K)) (m_Summary_range_rows : Mth P w K mg base 4 (He.ga K "Summary") "range_rows" (spRg K)) (m_Summary_shown : Mth P w K mg base 1 (He.ga K "Summary") "shown" (spSh K)) :
    FnOk P w K mg base (L2.CX P w) 17 (He.fAd K ("law", none)) fd ["script"] (spLaw K (tf.map fun p => (He.cT K p).2)) := by
  refine fn_H (t := fun W => t_law K W (spLb K) (spRounds K) (spLv K) (spEx K) (spRk K) (spSm K) (spSr K) (spNw K) (spBl K) (spEq K) (spRg K) (spSh K)) F sc_law (fun vs H Q E ⟨_, _, e, _⟩ => by rw [e]; rfl) (fun cdv A outer s H E e hr => der_law t c__law_bounds c__law_rounds c__law_values c_expected_share c_rank c_summarize c_summarize_rows n_Summary m_Summary_below_rows m_Summary_equal_rows m_Summary_range_rows m_Summary_shown hr) fun W vs H Q E hsp => ?_
  exact law_frame2 (n := 15) hsp hTc rfl (body_xs sc) (end_law sc)
theorem facts {w : World} {h : Heap} {mg : Str → Option Value} {f : Addr} {K : PySem.W.Frag} (X : K.In h) (G : h.Ns mainGlobals mg) (hfa : mg ("law" : Str) = some (.ref f)) (c : He.SaysX fa fn [] tf exB w h K) :
    LamX.LawAtS PySem.Challenge.rw_tablestack_k28_what_is_known_of_columns w K (L2.CX (PySem.Challenge.rw_tablestack_k28_what_is_known_of_columns).prog w) 17 63 "script" mg f h := by
  have d := c.t.d
  have glo : ∀ {x : Str}, He.Fa.glo x ∈ fa → mg x = some (.ref (He.ga K x)) := fun h => He.glo_ok X G (d.facts h)
  have fre : ∀ {x : Str}, He.Fa.free x ∈ fa → mg x = none := fun h => He.free_ok X G (d.facts h)
  obtain ⟨fd_kind_of, F_kind_of⟩ := d.defs (d := dF ("kind_of", none) "kind_of" "kind_of" s_kind_of) (by simp [fn])
  obtain ⟨fd_Summary___init__, F_Summary___init__⟩ := d.defs (d := dF ("Summary", some "__init__") "__init__" "Summary.__init__" s_Summary___init__) (by simp [fn])
  obtain ⟨fd_Summary_shown, F_Summary_shown⟩ := d.defs (d := dF ("Summary", some "shown") "shown" "Summary.shown" s_Summary_shown) (by simp [fn])
  obtain ⟨fd_Summary_equal_rows, F_Summary_equal_rows⟩ := d.defs (d := dF ("Summary", some "equal_rows") "equal_rows" "Summary.equal_rows" s_Summary_equal_rows) (by simp [fn])
  obtain ⟨fd__law_dice, F__law_dice⟩ := d.defs (d := dF ("_law_dice", none) "_law_dice" "_law_dice" s__law_dice) (by simp [fn])
  obtain ⟨fd__law_roll, F__law_roll⟩ := d.defs (d := dF ("_law_roll", none) "_law_roll" "_law_roll" s__law_roll) (by simp [fn])
  obtain ⟨fd__law_bounds, F__law_bounds⟩ := d.defs (d := dF ("_law_bounds", none) "_law_bounds" "_law_bounds" s__law_bounds) (by simp [fn])
  obtain ⟨fd_rank, F_rank⟩ := d.defs (d := dF ("rank", none) "rank" "rank" s_rank) (by simp [fn])
  obtain ⟨fd__law_rounds, F__law_rounds⟩ := d.defs (d := dF ("_law_rounds", none) "_law_rounds" "_law_rounds" s__law_rounds) (by simp [fn])
  obtain ⟨fd__law_values, F__law_values⟩ := d.defs (d := dF ("_law_values", none) "_law_values" "_law_values" s__law_values) (by simp [fn])
  obtain ⟨fd_Summary_below_rows, F_Summary_below_rows⟩ := d.defs (d := dF ("Summary", some "below_rows") "below_rows" "Summary.below_rows" s_Summary_below_rows) (by simp [fn])
  obtain ⟨fd_Summary_range_rows, F_Summary_range_rows⟩ := d.defs (d := dF ("Summary", some "range_rows") "range_rows" "Summary.range_rows" s_Summary_range_rows) (by simp [fn])
  obtain ⟨fd_expected_share, F_expected_share⟩ := d.defs (d := dF ("expected_share", none) "expected_share" "expected_share" s_expected_share) (by simp [fn])
  obtain ⟨fd_summarize, F_summarize⟩ := d.defs (d := dF ("summarize", none) "summarize" "summarize" s_summarize) (by simp [fn])
  obtain ⟨fd_summarize_rows, F_summarize_rows⟩ := d.defs (d := dF ("summarize_rows", none) "summarize_rows" "summarize_rows" s_summarize_rows) (by simp [fn])
  obtain ⟨fd_law, F_law⟩ := d.defs (d := dF ("law", none) "law" "law" s_law) (by simp [fn])
  have C_Summary := He.cls_ok (d.facts (f := .cls "Summary") (by simp [fa]))
  have na0 := He.noat_ok (d.facts (f := .noat "Summary" "rows") (by simp [fa]))
  have na1 := He.noat_ok (d.facts (f := .noat "Summary" "nulls") (by simp [fa]))
  have na2 := He.noat_ok (d.facts (f := .noat "Summary" "different") (by simp [fa]))
  have na3 := He.noat_ok (d.facts (f := .noat "Summary" "bounds") (by simp [fa]))
  have more := c.more
  unfold exB at more
  have nd := of_decide_eq_true more
  have t : Txt K mg := { c_BUCKETS := He.int_ok X G (d.facts (by simp [fa])), n_abs := fre (by simp [fa]), n_dict := fre (by simp [fa]), n_enumerate := fre (by simp [fa]), n_int := fre (by simp [fa]), n_isinstance := fre (by simp [fa]), n_len := fre (by simp [fa]), n_max := fre (by simp [fa]), n_min := fre (by simp [fa]), n_range := fre (by simp [fa]), n_sorted := fre (by simp [fa]), n_str := fre (by simp [fa]), n_tuple := fre (by simp [fa]) }
  have sc : SC K := ⟨C_Summary, na0, na1, na2, na3⟩
  have e := hfa.symm.trans (glo (x := "law") (by simp [fa]))
  have e' : f = He.ga K "law" := by
    injection e with e
    injection e
  subst e'
  have b := FunD.bindsA (ps := ["script"]) F_law fun _ _ _ _ _ _ us hl => match us, hl with | [_], _ => rfl
  have tfm : ∀ {p : Addr × Addr}, p ∈ tf.map (He.cT K) → ∃ q ∈ tf, p = He.cT K q := fun h => by
    obtain ⟨q, h1, h2⟩ := List.mem_map.mp h
    exact ⟨q, h1, h2.symm⟩
  have tbm : ∀ p ∈ tbl K, p.1 ∈ tf.map fun p => (He.cT K p).2 := fun p hp => by
    simp only [tbl, tf, List.map_cons, List.map_nil, List.mem_cons] at hp ⊢
    rcases hp with rfl | rfl | z
    all_goals first | (cases z; done) | simp
  have ndt : ((tbl K).map (·.1)).Nodup := nd
  refine ⟨fd_law, tf.map (He.cT K), spLaw K (tf.map fun p => (He.cT K p).2), fun p hp => ?_, fun p hp => ?_, fun p hp => ?_, fun s u => b s [u] rfl, fun H a ns _ _ hT hS => ⟨a, ns, rfl, hS, fun p hp => ?_, fun H' => rfl⟩, fun base Kb Gb hTB => ?_⟩
  · obtain ⟨q, hq, rfl⟩ := tfm hp
    exact c.empty _ hq
  · obtain ⟨q, hq, rfl⟩ := tfm hp
    exact c.out _ hq
  · obtain ⟨q, hq, rfl⟩ := tfm hp
    exact PySem.W.codeHd_of_K X (c.hd _ hq)
  · obtain ⟨q, hq, rfl⟩ := List.mem_map.mp hp
    exact hT _ (List.mem_map.mpr ⟨q, hq, rfl⟩)
  · letI : Tt := ⟨tbl K⟩
    have T_summarize := hTB (He.cT K ("summarize", none)) (List.mem_map.mpr ⟨_, .head _, rfl⟩)
    have M_summarize : ((He.cT K ("summarize", none)).2, genQ_summarize) ∈ tbl K := .head _
    have T_summarize_rows := hTB (He.cT K ("summarize_rows", none)) (List.mem_map.mpr ⟨_, .tail _ (.head _), rfl⟩)
    have M_summarize_rows : ((He.cT K ("summarize_rows", none)).2, genQ_summarize_rows) ∈ tbl K := .tail _ (.head _)
    have k_kind_of := cal_kind_of (P := (PySem.Challenge.rw_tablestack_k28_what_is_known_of_columns).prog) (w := w) (base := base) t F_kind_of (glo (by simp [fa]))
    have k_Summary := new_Summary (P := (PySem.Challenge.rw_tablestack_k28_what_is_known_of_columns).prog) (w := w) (base := base) t sc (He.mkr_ok (d.facts (f := .mkr "Summary") (by simp [fa]))) F_Summary___init__ (glo (by simp [fa]))
    have k_Summary_shown := mth_Summary_shown (P := (PySem.Challenge.rw_tablestack_k28_what_is_known_of_columns).prog) (w := w) (base := base) t sc C_Summary (He.meth_ok (d.facts (f := .meth "Summary" "shown") (by simp [fa]))) F_Summary_shown
    have k_Summary_equal_rows := mth_Summary_equal_rows (P := (PySem.Challenge.rw_tablestack_k28_what_is_known_of_columns).prog) (w := w) (base := base) t sc C_Summary (He.meth_ok (d.facts (f := .meth "Summary" "equal_rows") (by simp [fa]))) F_Summary_equal_rows
    have k__law_dice := cal__law_dice (P := (PySem.Challenge.rw_tablestack_k28_what_is_known_of_columns).prog) (w := w) (base := base) t F__law_dice (glo (by simp [fa]))
    have k__law_roll := cal__law_roll (P := (PySem.Challenge.rw_tablestack_k28_what_is_known_of_columns).prog) (w := w) (base := base) t F__law_roll (glo (by simp [fa]))
    have k__law_bounds := cal__law_bounds (P := (PySem.Challenge.rw_tablestack_k28_what_is_known_of_columns).prog) (w := w) (base := base) t F__law_bounds (glo (by simp [fa]))
    have k_rank := cal_rank (P := (PySem.Challenge.rw_tablestack_k28_what_is_known_of_columns).prog) (w := w) (base := base) t k_kind_of F_rank (glo (by simp [fa]))
    have k__law_rounds := cal__law_rounds (P := (PySem.Challenge.rw_tablestack_k28_what_is_known_of_columns).prog) (w := w) (base := base) t k__law_dice F__law_rounds (glo (by simp [fa]))
    have k__law_values := cal__law_values (P := (PySem.Challenge.rw_tablestack_k28_what_is_known_of_columns).prog) (w := w) (base := base) t k__law_roll F__law_values (glo (by simp [fa]))
    have k_Summary_below_rows := mth_Summary_below_rows (P := (PySem.Challenge.rw_tablestack_k28_what_is_known_of_columns).prog) (w := w) (base := base) t sc k_rank C_Summary (He.meth_ok (d.facts (f := .meth "Summary" "below_rows") (by simp [fa]))) F_Summary_below_rows
    have k_Summary_range_rows := mth_Summary_range_rows (P := (PySem.Challenge.rw_tablestack_k28_what_is_known_of_columns).prog) (w := w) (base := base) t sc k_Summary_below_rows C_Summary (He.meth_ok (d.facts (f := .meth "Summary" "range_rows") (by simp [fa]))) F_Summary_range_rows
    have k_expected_share := cal_expected_share (P := (PySem.Challenge.rw_tablestack_k28_what_is_known_of_columns).prog) (w := w) (base := base) t sc k_Summary_below_rows k_Summary_equal_rows k_Summary_range_rows F_expected_share (glo (by simp [fa]))
    have k_summarize := cal_summarize (P := (PySem.Challenge.rw_tablestack_k28_what_is_known_of_columns).prog) (w := w) (base := base) t k_rank k_Summary T_summarize M_summarize (hu_of ndt M_summarize) F_summarize (glo (by simp [fa]))
    have k_summarize_rows := cal_summarize_rows (P := (PySem.Challenge.rw_tablestack_k28_what_is_known_of_columns).prog) (w := w) (base := base) t k_summarize T_summarize_rows M_summarize_rows (hu_of ndt M_summarize_rows) F_summarize_rows (glo (by simp [fa]))
    exact law_ok t sc F_law tbm k__law_bounds k__law_rounds k__law_values k_expected_share k_rank k_summarize k_summarize_rows k_Summary k_Summary_below_rows k_Summary_equal_rows k_Summary_range_rows k_Summary_shown
end K28
open PySem PySem.W PySem.Calls PyProof.Rows
theorem PySem.Challenge.cw_tablestack_k28_what_is_known_of_columns_holds : PySem.Challenge.rw_tablestack_k28_what_is_known_of_columns.Holds := by
  w_on; o_law
  refine HandSHeadRun.head_any (r := OpenLaw.row PySem.Challenge.rw_tablestack_k28_what_is_known_of_columns) (q := view (OpenLaw.row PySem.Challenge.rw_tablestack_k28_what_is_known_of_columns).prog [15]) (H := K28.hk) (ob := K28.ob) (M := 6000) (loose := K28.loose) (d := HandSHeadRun.topDef (OpenLaw.row PySem.Challenge.rw_tablestack_k28_what_is_known_of_columns).prog 15) (kwd := []) K28.ob_eq
    (by kernel_rfl) (fun s => by kernel_rfl) K28.run (by kernel_rfl) (by kernel_rfl) (by kernel_rfl) (by rfl) (by first | assumption | decide +kernel) (by decide +kernel) ⟨rfl, rfl, rfl, rfl, rfl, by decide +kernel⟩ ?hw ?hc
  case hw => w_witness2
  case hc =>
    refine LamX.walk_ofTsE (l := PySem.Challenge.rw_tablestack_k28_what_is_known_of_columns) (n := 63) (k := 17) (x := "script") (CX := fun w => L2.CX (PySem.Challenge.rw_tablestack_k28_what_is_known_of_columns).prog w) rfl (by decide) (by kernel_rfl) ⟨rfl, by decide, by decide⟩ ?F (fun w H s e s' z => ?X)
    case F =>
      intro w mg fa h Y G hmg0
      obtain ⟨K, KX, c⟩ := Y
      have hmg : mg ("law" : PySem.Str) = some (.ref fa) := by
        have e : (HandSHeadRun.topDef (OpenLaw.row PySem.Challenge.rw_tablestack_k28_what_is_known_of_columns).prog 15).name = ("law" : PySem.Str) := by kernel_rfl
        rw [← e]
        exact hmg0
      exact ⟨K, KX, K28.facts KX G hmg c⟩
    case X =>
      obtain ⟨_, _, _, _, _, _, _, _, _, _, _, _, _, _, _, _, z⟩ := z
