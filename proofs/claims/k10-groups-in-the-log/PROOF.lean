import PyProof.Rows.All
import Wide.All
import OpenK.AllK
import Wide.FinOn
import KE.KStateDown
import HandS.ForMost
import HandS.Exc
import HandS.ExcOwn
import HandS.TryOnly
import HandS.TryMany
import HandS.More
import HandS.Style
import HandS.TupAny
import HandS.TupMul
import HandS.TupLe
import HandS.Wide
import HandS.Walk
import HandS.Defaults
import HandS.WordsExc
import HandS.Lambda
import HandS.EndTab
import HandS.HeadWalk
import HandS.Head0
import HandS.Head1
import HandS.Head2
import HandS.HeadHook1
import HandS.HeadHook2
import HandS.HeadHook3
import HandS.HeadHook4
import HandS.Zip
import KE.GoesMore
import KE.GoesEnum
import PyProof.ListRange
import HandS.ExcCtx
import HandS.Hot
import HandS.HotCalls
import HandS.SuiteRaise
import HandS.RaiseFrom
import PySem.Challenge.RW_tablestack_k10_groups_in_the_log
set_option Elab.async false
set_option linter.all false
set_option autoImplicit false
set_option maxRecDepth 100000
set_option maxHeartbeats 0
/-! A program logic over data, above the readings of the hand layer: values are told as data (D), slots as an environment of data (En); heaps stay within this file. -/
namespace Ts
open PySem L2

/-! ### data -/
inductive D where
  | non | bl (b : Bool) | int (i : Int) | str (x : Str) | lst (xs : List D) | tup (xs : List D) | obj (C : Addr) (fs : List (Str × D))

/-- all but tables of code objects stay -/
def Exx (H H' : Hp) : Prop := ∀ a o, H a = some o → (∀ ps, o ≠ HO.tbl ps) → H' a = some o
theorem Exx.refl (H : Hp) : Exx H H := fun _ _ h _ => h
theorem Exx.trans {H H1 H2 : Hp} (a : Exx H H1) (b : Exx H1 H2) : Exx H H2 := fun x o h n => b x o (a x o h n) n
theorem Exx.l {H H' : Hp} (e : Exx H H') {a : Addr} {xs : List V} (h : H a = some (.lst xs)) : H' a = some (.lst xs) := e a _ h (fun _ z => nomatch z)
theorem Exx.i {H H' : Hp} (e : Exx H H') {a C dx : Addr} {vs : List (Str × V)} (h : H a = some (.ins C dx vs)) : H' a = some (.ins C dx vs) := e a _ h (fun _ z => nomatch z)
abbrev Tb : Type := List (Addr × Str)
abbrev Qd : Type := Option (Addr × Tb)

mutual
/-- v stands for d, over what is frozen: G -/
inductive Rp (K : PySem.W.Frag) (G : Hp) : V → D → Prop
  | non : Rp K G .non .non
  | bl (b : Bool) : Rp K G (.bl b) (.bl b)
  | int (i : Int) : Rp K G (.int i) (.int i)
  | str (x : Str) : Rp K G (.str x) (.str x)
  | lst {a : Addr} {xs : List V} {ds : List D} : G a = some (.lst xs) → RpL K G xs ds → Rp K G (.ref a) (.lst ds)
  | tup {a : Addr} {xs : List V} {ds : List D} : SqT K G a xs → RpL K G xs ds → Rp K G (.ref a) (.tup ds)
  | obj {a C dx : Addr} {vs : List (Str × V)} {fs : List (Str × D)} : G a = some (.ins C dx vs) → RpF K G vs fs → Rp K G (.ref a) (.obj C fs)
inductive RpL (K : PySem.W.Frag) (G : Hp) : List V → List D → Prop
  | nil : RpL K G [] []
  | cons {v : V} {vs : List V} {d : D} {ds : List D} : Rp K G v d → RpL K G vs ds → RpL K G (v :: vs) (d :: ds)
inductive RpF (K : PySem.W.Frag) (G : Hp) : List (Str × V) → List (Str × D) → Prop
  | nil : RpF K G [] []
  | cons {f : Str} {v : V} {vs : List (Str × V)} {d : D} {ds : List (Str × D)} : Rp K G v d → RpF K G vs ds → RpF K G ((f, v) :: vs) ((f, d) :: ds)
end

theorem rd_ex {H H' : Hp} {a : Addr} {u : HO} (e : Exx H H') (n : ∀ ps, u ≠ HO.tbl ps) (h : Rd H a u) : Rd H' a u := by
  rcases h with h | ⟨o, h⟩
  · exact Or.inl (e a _ h n)
  · exact Or.inr ⟨o, e a _ h (fun _ z => nomatch z)⟩
theorem sl_ex {K : PySem.W.Frag} {H H' : Hp} {a : Addr} {xs : List V} (e : Exx H H') (h : SqL K H a xs) : SqL K H' a xs := by
  rcases h with h | h
  · exact Or.inl (rd_ex e (fun _ z => nomatch z) h)
  · exact Or.inr h
theorem st_ex {K : PySem.W.Frag} {H H' : Hp} {a : Addr} {xs : List V} (e : Exx H H') (h : SqT K H a xs) : SqT K H' a xs := by
  rcases h with h | h
  · exact Or.inl (rd_ex e (fun _ z => nomatch z) h)
  · exact Or.inr h
mutual
theorem Rp.ex {K : PySem.W.Frag} {G G' : Hp} (e : Exx G G') : ∀ {v : V} {d : D}, Rp K G v d → Rp K G' v d
  | _, _, .non => .non
  | _, _, .bl b => .bl b
  | _, _, .int i => .int i
  | _, _, .str x => .str x
  | _, _, .lst h r => .lst (e.l h) (RpL.ex e r)
  | _, _, .tup h r => .tup (st_ex e h) (RpL.ex e r)
  | _, _, .obj h r => .obj (e.i h) (RpF.ex e r)
theorem RpL.ex {K : PySem.W.Frag} {G G' : Hp} (e : Exx G G') : ∀ {vs : List V} {ds : List D}, RpL K G vs ds → RpL K G' vs ds
  | _, _, .nil => .nil
  | _, _, .cons h r => .cons (Rp.ex e h) (RpL.ex e r)
theorem RpF.ex {K : PySem.W.Frag} {G G' : Hp} (e : Exx G G') : ∀ {vs : List (Str × V)} {ds : List (Str × D)}, RpF K G vs ds → RpF K G' vs ds
  | _, _, .nil => .nil
  | _, _, .cons h r => .cons (Rp.ex e h) (RpF.ex e r)
end
section
variable {K : PySem.W.Frag} {G : Hp}
theorem Rp.int_inv {v : V} {i : Int} (h : Rp K G v (.int i)) : v = .int i := by cases h; rfl
theorem Rp.bl_inv {v : V} {b : Bool} (h : Rp K G v (.bl b)) : v = .bl b := by cases h; rfl
theorem Rp.str_inv {v : V} {x : Str} (h : Rp K G v (.str x)) : v = .str x := by cases h; rfl
theorem Rp.non_inv {v : V} (h : Rp K G v .non) : v = .non := by cases h; rfl
theorem Rp.lst_inv {v : V} {ds : List D} (h : Rp K G v (.lst ds)) : ∃ a xs, v = .ref a ∧ G a = some (.lst xs) ∧ RpL K G xs ds := by
  cases h with
  | lst h r => exact ⟨_, _, rfl, h, r⟩
theorem Rp.tup_inv {v : V} {ds : List D} (h : Rp K G v (.tup ds)) : ∃ a xs, v = .ref a ∧ SqT K G a xs ∧ RpL K G xs ds := by
  cases h with
  | tup h r => exact ⟨_, _, rfl, h, r⟩
theorem Rp.obj_inv {v : V} {C : Addr} {fs : List (Str × D)} (h : Rp K G v (.obj C fs)) : ∃ a dx vs, v = .ref a ∧ G a = some (.ins C dx vs) ∧ RpF K G vs fs := by
  cases h with
  | obj h r => exact ⟨_, _, _, rfl, h, r⟩
theorem RpL.length : ∀ {vs : List V} {ds : List D}, RpL K G vs ds → vs.length = ds.length
  | _, _, .nil => rfl
  | _, _, .cons _ r => congrArg Nat.succ (RpL.length r)
theorem RpL.get : ∀ {vs : List V} {ds : List D} {i : Nat} {d : D}, RpL K G vs ds → ds[i]? = some d → ∃ v, vs[i]? = some v ∧ Rp K G v d
  | _, _, _, _, .nil, e => by simp at e
  | _, _, 0, _, .cons r _, e => by simp at e; subst e; exact ⟨_, rfl, r⟩
  | _, _, i + 1, x, .cons _ t, e => by
    obtain ⟨u, h1, h2⟩ := RpL.get (i := i) t (by simpa using e)
    exact ⟨u, by simpa using h1, h2⟩
theorem RpL.getV : ∀ {vs : List V} {ds : List D} {i : Nat} {v : V}, RpL K G vs ds → vs[i]? = some v → ∃ d, ds[i]? = some d ∧ Rp K G v d
  | _, _, _, _, .nil, e => by simp at e
  | _, _, 0, _, .cons r _, e => by simp at e; subst e; exact ⟨_, rfl, r⟩
  | _, _, i + 1, x, .cons _ t, e => by
    obtain ⟨u, h1, h2⟩ := RpL.getV (i := i) t (by simpa using e)
    exact ⟨u, by simpa using h1, h2⟩
theorem RpL.append : ∀ {xs ys : List V} {as bs : List D}, RpL K G xs as → RpL K G ys bs → RpL K G (xs ++ ys) (as ++ bs)
  | _, _, _, _, .nil, s => s
  | _, _, _, _, .cons r t, s => .cons r (RpL.append t s)
theorem RpL.take : ∀ {xs : List V} {as : List D} (n : Nat), RpL K G xs as → RpL K G (xs.take n) (as.take n)
  | _, _, 0, _ => .nil
  | _, _, _ + 1, .nil => .nil
  | _, _, n + 1, .cons r t => .cons r (RpL.take n t)
theorem RpL.drop : ∀ {xs : List V} {as : List D} (n : Nat), RpL K G xs as → RpL K G (xs.drop n) (as.drop n)
  | _, _, 0, r => r
  | _, _, _ + 1, .nil => .nil
  | _, _, n + 1, .cons _ t => RpL.drop n t
theorem RpL.reverse : ∀ {xs : List V} {as : List D}, RpL K G xs as → RpL K G xs.reverse as.reverse
  | _, _, .nil => .nil
  | _, _, .cons r t => by
    rw [List.reverse_cons, List.reverse_cons]
    exact RpL.append (RpL.reverse t) (.cons r .nil)
theorem RpL.replicate {v : V} {d : D} (h : Rp K G v d) : ∀ n, RpL K G (List.replicate n v) (List.replicate n d)
  | 0 => .nil
  | n + 1 => .cons h (RpL.replicate h n)
theorem RpL.ints : ∀ ns : List Int, RpL K G (ns.map V.int) (ns.map D.int)
  | [] => .nil
  | n :: r => .cons (.int n) (RpL.ints r)
theorem RpL.ints_inv : ∀ {ns : List Int} {vs : List V}, RpL K G vs (ns.map D.int) → vs = ns.map V.int
  | [], _, h => by cases h; rfl
  | n :: r, _, h => by
    cases h with
    | cons a b =>
      cases a
      rw [RpL.ints_inv b]; rfl
theorem RpL.bls_inv : ∀ {ns : List Bool} {vs : List V}, RpL K G vs (ns.map D.bl) → vs = ns.map V.bl
  | [], _, h => by cases h; rfl
  | n :: r, _, h => by
    cases h with
    | cons a b =>
      cases a
      rw [RpL.bls_inv b]; rfl
theorem RpL.strs_inv : ∀ {ns : List Str} {vs : List V}, RpL K G vs (ns.map D.str) → vs = ns.map V.str
  | [], _, h => by cases h; rfl
  | n :: r, _, h => by
    cases h with
    | cons a b =>
      cases a
      rw [RpL.strs_inv b]; rfl
theorem RpF.look : ∀ {vs : List (Str × V)} {ds : List (Str × D)} {f : Str} {d : D}, RpF K G vs ds → ds.lookup f = some d → ∃ v, vs.lookup f = some v ∧ Rp K G v d
  | _, _, _, _, .nil, e => by simp at e
  | _, _, f, d, .cons (f := g) r t, e => by
    rw [List.lookup_cons] at e ⊢
    cases q : f == g with
    | true =>
      rw [q] at e
      cases e
      exact ⟨_, rfl, r⟩
    | false =>
      rw [q] at e
      exact RpF.look t e
theorem RpF.lookN : ∀ {vs : List (Str × V)} {ds : List (Str × D)} {f : Str}, RpF K G vs ds → ds.lookup f = none → vs.lookup f = none
  | _, _, _, .nil, _ => rfl
  | _, _, f, .cons (f := g) r t, e => by
    rw [List.lookup_cons] at e ⊢
    cases q : f == g with
    | true => rw [q] at e; cases e
    | false => rw [q] at e; exact RpF.lookN t e
end

/-! ### growth -/
def DiceAt (H : Hp) (a : Addr) : Prop := ∃ x y z : Int, H a = some (.lst [.int x, .int y, .int z])
/-- nothing stands at a, or a table -/
def Nt (H : Hp) (a : Addr) : Prop := ∀ o, H a = some o → ∃ ps, o = HO.tbl ps
theorem Nt.of {H : Hp} {a : Addr} (h : H a = none) : Nt H a := fun o e => by rw [h] at e; cases e
theorem Nt.l {H : Hp} {a : Addr} {xs : List V} (n : Nt H a) (h : H a = some (.lst xs)) : False := by
  obtain ⟨ps, e⟩ := n _ h
  cases e
/-- tables and code objects stand -/
def Tbd (H H' : Hp) : Prop := ∀ T, LamX.Tabs T H → LamX.Tabs T H'
theorem Tbd.refl (H : Hp) : Tbd H H := fun _ h => h
theorem Tbd.of {H H' : Hp} (h : ∀ b o, H b = some o → (∀ xs, o ≠ HO.lst xs) → H' b = some o) : Tbd H H' := fun T t p hp => by
  obtain ⟨ps, h1, h2, h3⟩ := t p hp
  refine ⟨ps, h _ _ h1 (fun _ z => nomatch z), h2, fun pos cv hc => ?_⟩
  obtain ⟨c, e1, e2⟩ := h3 pos cv hc
  exact ⟨c, e1, h _ _ e2 (fun _ z => nomatch z)⟩
theorem Tbd.new {H : Hp} {p : Addr} {o : HO} (hp : H p = none) : Tbd H (upd H p o) := .of fun b u e _ => by rw [upd_ne (ne_of_none e hp)]; exact e
theorem Tbd.chg {H : Hp} {p : Addr} {xs : List V} {o : HO} (hp : H p = some (.lst xs)) : Tbd H (upd H p o) := .of fun b u e n => by
  have : b ≠ p := fun z => by
    rw [z, hp] at e
    exact n xs (Option.some.inj e).symm
  rw [upd_ne this]; exact e
/-- from (G, H) to (G', H'): G frozen; what H knew stands (but the dice and the tables at q); what G' knows besides is new -/
structure Gr (q : Qd) (G H G' H' : Hp) : Prop where
  ex : Exx G G'
  nw : ∀ a o, G' a = some o → G a = some o ∨ Nt H a
  sub : Exx G' H'
  keep : ∀ a o, (∀ T, q ≠ some (a, T)) → H a = some o → (∀ ps, o ≠ HO.tbl ps) → H' a = some o
  tk : q = none → Tbd H H'
  dq : ∀ a T, q = some (a, T) → DiceAt H a ∧ LamX.Tabs T H → DiceAt H' a ∧ LamX.Tabs T H'
theorem Gr.refl {q : Qd} {G H : Hp} (h : Exx G H) : Gr q G H G H := ⟨Exx.refl G, fun _ _ e => .inl e, h, fun _ _ _ e _ => e, fun _ => Tbd.refl H, fun _ _ _ e => e⟩
theorem Gr.live {q : Qd} {G H G' H' : Hp} (g : Gr q G H G' H') (hq : ∀ a T, q = some (a, T) → DiceAt H a ∧ LamX.Tabs T H) {a : Addr} (h : Nt H' a) : Nt H a := fun o e => by
  by_cases n : ∃ ps, o = HO.tbl ps
  · exact n
  · by_cases c : ∃ T, q = some (a, T)
    · obtain ⟨T, c⟩ := c
      obtain ⟨⟨x, y, z, d⟩, _⟩ := g.dq a T c (hq a T c)
      exact (h.l d).elim
    · obtain ⟨ps, z⟩ := h o (g.keep a o (fun T z => c ⟨T, z⟩) e (fun ps z => n ⟨ps, z⟩))
      exact ⟨ps, z⟩
theorem Gr.trans {q : Qd} {G H G1 H1 G2 H2 : Hp} (a : Gr q G H G1 H1) (b : Gr q G1 H1 G2 H2) (hq : ∀ a T, q = some (a, T) → DiceAt H a ∧ LamX.Tabs T H) : Gr q G H G2 H2 where
  ex := a.ex.trans b.ex
  nw := fun x o e => by
    rcases b.nw x o e with h | h
    · exact a.nw x o h
    · exact .inr (a.live hq h)
  sub := b.sub
  keep := fun x o c e n => b.keep x o c (a.keep x o c e n) n
  tk := fun c T t => b.tk c T (a.tk c T t)
  dq := fun x T c e => b.dq x T c (a.dq x T c e)
theorem Gr.kl {q : Qd} {G H G' H' : Hp} (g : Gr q G H G' H') {a : Addr} {xs : List V} (n : ∀ T, q ≠ some (a, T)) (h : H a = some (.lst xs)) : H' a = some (.lst xs) := g.keep a _ n h (fun _ z => nomatch z)
/-- a growth that keeps all keeps the dice -/
theorem Gr.any {q : Qd} {G H G' H' : Hp} (a : Gr none G H G' H') : Gr q G H G' H' where
  ex := a.ex
  nw := a.nw
  sub := a.sub
  keep := fun x o _ e n => a.keep x o (by simp) e n
  tk := fun _ => a.tk rfl
  dq := fun x T _ ⟨⟨i, j, k, e⟩, t⟩ => ⟨⟨i, j, k, a.kl (by simp) e⟩, a.tk rfl T t⟩
/-- a new frozen object -/
theorem Gr.new {G H : Hp} {p : Addr} {o : HO} (h : Exx G H) (hp : H p = none) (nt : ∀ ps, o ≠ HO.tbl ps := by exact fun _ z => nomatch z) : Gr none G H (upd G p o) (upd H p o) where
  ex := fun a u e n => by
    have : a ≠ p := fun z => by subst z; rw [h a u e n] at hp; cases hp
    rw [upd_ne this]; exact e
  nw := fun a u e => by
    by_cases c : a = p
    · subst c; exact .inr (.of hp)
    · rw [upd_ne c] at e; exact .inl e
  sub := fun a u e n => by
    by_cases c : a = p
    · subst c; rw [upd_same] at e ⊢; exact e
    · rw [upd_ne c] at e ⊢; exact h a u e n
  keep := fun a u _ e _ => by rw [upd_ne (ne_of_none e hp)]; exact e
  tk := fun _ => .new hp
  dq := fun _ _ q => nomatch q

/-! ### environments -/
inductive Sl where
  /-- no value, or none that matters -/
  | no
  /-- a datum -/
  | dat (d : D)
  /-- a list of this def's own, still growing -/
  | own (ds : List D)
  /-- the dice -/
  | dice (T : Tb)
abbrev En := List Sl
structure Rs (K : PySem.W.Frag) (q : Qd) (H0 G H : Hp) (σ : L2.St) (Δ : En) : Prop where
  sub : Exx G H
  len : σ.length = Δ.length
  gq : ∀ a T, q = some (a, T) → Nt G a ∧ DiceAt H a ∧ LamX.Tabs T H
  dat : ∀ (i : Nat) (d : D), Δ[i]? = some (Sl.dat d) → ∃ v, σ[i]? = some (some v) ∧ Rp K G v d
  own : ∀ (i : Nat) (ds : List D), Δ[i]? = some (Sl.own ds) → ∃ (p : Addr) (vs : List V), σ[i]? = some (some (V.ref p)) ∧ H p = some (.lst vs) ∧ RpL K G vs ds ∧ Nt G p ∧ Nt H0 p ∧ ∀ T, q ≠ some (p, T)
  dif : ∀ (i j : Nat) (ds es : List D) (p : Addr), Δ[i]? = some (Sl.own ds) → Δ[j]? = some (Sl.own es) → σ[i]? = some (some (V.ref p)) → σ[j]? = some (some (V.ref p)) → i = j
  dice : ∀ (i : Nat) (T : Tb), Δ[i]? = some (Sl.dice T) → ∃ a : Addr, q = some (a, T) ∧ σ[i]? = some (some (V.ref a))
/-- the state: grown from the entry (G0, H0), its slots told by Δ -/
structure Sta (K : PySem.W.Frag) (q : Qd) (G0 H0 G H : Hp) (σ : L2.St) (Δ : En) : Prop where
  gr : Gr q G0 H0 G H
  hq : ∀ a T, q = some (a, T) → DiceAt H0 a ∧ LamX.Tabs T H0
  rs : Rs K q H0 G H σ Δ

section
variable {K : PySem.W.Frag} {q : Qd} {G0 H0 G H G' H' : Hp} {σ : L2.St} {Δ : En}
theorem Gr.un (g : Gr q G H G' H') {p : Addr} {xs : List V} (n : Nt G p) (h : H p = some (.lst xs)) : Nt G' p := fun o e => by
  rcases g.nw p o e with z | z
  · exact n o z
  · exact (z.l h).elim
/-- the state behind a growth that may turn the dice -/
theorem Sta.go (s : Sta K q G0 H0 G H σ Δ) (g : Gr q G H G' H') : Sta K q G0 H0 G' H' σ Δ := by
  refine ⟨s.gr.trans g s.hq, s.hq, g.sub, s.rs.len, fun a T e => ?_, fun i d e => ?_, fun i ds e => ?_, s.rs.dif, s.rs.dice⟩
  · obtain ⟨h1, h2⟩ := s.rs.gq a T e
    obtain ⟨x, y, z, h3⟩ := h2.1
    exact ⟨g.un h1 h3, g.dq a T e h2⟩
  · obtain ⟨v, h1, h2⟩ := s.rs.dat i d e
    exact ⟨v, h1, h2.ex g.ex⟩
  · obtain ⟨p, vs, h1, h2, h3, h4, h5, h6⟩ := s.rs.own i ds e
    exact ⟨p, vs, h1, g.kl h6 h2, h3.ex g.ex, g.un h4 h2, h5, h6⟩
theorem Sta.pure (s : Sta K q G0 H0 G H σ Δ) (g : Gr none G H G' H') : Sta K q G0 H0 G' H' σ Δ := s.go g.any
theorem Sta.sub (s : Sta K q G0 H0 G H σ Δ) : Exx G H := s.rs.sub
theorem Sta.dq (s : Sta K q G0 H0 G H σ Δ) : ∀ a T, q = some (a, T) → DiceAt H a ∧ LamX.Tabs T H := fun a T e => (s.rs.gq a T e).2
theorem Sta.rf (s : Sta K q G0 H0 G H σ Δ) : Gr q G H G H := Gr.refl s.sub
theorem Sta.tr {G1 H1 G2 H2 : Hp} (s : Sta K q G0 H0 G H σ Δ) (g1 : Gr q G H G1 H1) (g2 : Gr q G1 H1 G2 H2) : Gr q G H G2 H2 := g1.trans g2 s.dq
/-- the state at an entry -/
theorem Sta.start {G H : Hp} {σ : L2.St} {Δ : En} (r : Rs K q H G H σ Δ) : Sta K q G H G H σ Δ := ⟨Gr.refl r.sub, fun a T e => (r.gq a T e).2, r⟩
/-- a slot gets a datum -/
theorem Sta.set (s : Sta K q G0 H0 G H σ Δ) {i : Nat} {v : V} {d : D} (r : Rp K G v d) : Sta K q G0 H0 G H (σ.set i (some v)) (Δ.set i (.dat d)) := by
  refine ⟨s.gr, s.hq, s.rs.sub, by rw [List.length_set, List.length_set]; exact s.rs.len, s.rs.gq, fun j e he => ?_, fun j ds he => ?_, fun j k ds es p h1 h2 h3 h4 => ?_, fun j T he => ?_⟩
  · by_cases c : i = j
    · subst c
      have hl : i < Δ.length := by
        have := (List.getElem?_eq_some_iff.mp he).1
        simpa using this
      rw [List.getElem?_set_self hl] at he
      cases he
      exact ⟨v, List.getElem?_set_self (by rw [s.rs.len]; exact hl), r⟩
    · rw [List.getElem?_set_ne c] at he ⊢
      exact s.rs.dat j e he
  · by_cases c : i = j
    · subst c
      have hl : i < Δ.length := by
        have := (List.getElem?_eq_some_iff.mp he).1
        simpa using this
      rw [List.getElem?_set_self hl] at he
      cases he
    · rw [List.getElem?_set_ne c] at he ⊢
      exact s.rs.own j ds he
  · have nj : i ≠ j := fun c => by
      subst c
      have hl : i < Δ.length := by
        have := (List.getElem?_eq_some_iff.mp h1).1
        simpa using this
      rw [List.getElem?_set_self hl] at h1; cases h1
    have nk : i ≠ k := fun c => by
      subst c
      have hl : i < Δ.length := by
        have := (List.getElem?_eq_some_iff.mp h2).1
        simpa using this
      rw [List.getElem?_set_self hl] at h2; cases h2
    rw [List.getElem?_set_ne nj] at h1 h3
    rw [List.getElem?_set_ne nk] at h2 h4
    exact s.rs.dif j k ds es p h1 h2 h3 h4
  · by_cases c : i = j
    · subst c
      have hl : i < Δ.length := by
        have := (List.getElem?_eq_some_iff.mp he).1
        simpa using this
      rw [List.getElem?_set_self hl] at he
      cases he
    · rw [List.getElem?_set_ne c] at he ⊢
      exact s.rs.dice j T he
/-- forgetting slots -/
theorem Sta.weak {σ' : L2.St} {Δ' : En} (s : Sta K q G0 H0 G H σ Δ) (hl : σ'.length = Δ'.length) (w : ∀ (i : Nat) (e : Sl), Δ'[i]? = some e → e = Sl.no ∨ (Δ[i]? = some e ∧ σ'[i]? = σ[i]?)) : Sta K q G0 H0 G H σ' Δ' := by
  refine ⟨s.gr, s.hq, s.rs.sub, hl, s.rs.gq, fun j e he => ?_, fun j ds he => ?_, fun j k ds es p h1 h2 h3 h4 => ?_, fun j T he => ?_⟩
  · rcases w _ _ he with c | ⟨c, c2⟩
    · cases c
    · rw [c2]; exact s.rs.dat j e c
  · rcases w _ _ he with c | ⟨c, c2⟩
    · cases c
    · rw [c2]; exact s.rs.own j ds c
  · rcases w _ _ h1 with c | ⟨c, c2⟩
    · cases c
    · rcases w _ _ h2 with d | ⟨d, d2⟩
      · cases d
      · rw [c2] at h3
        rw [d2] at h4
        exact s.rs.dif j k ds es p c d h3 h4
  · rcases w _ _ he with c | ⟨c, c2⟩
    · cases c
    · rw [c2]; exact s.rs.dice j T c
theorem Sta.setAny (s : Sta K q G0 H0 G H σ Δ) {i : Nat} {v : Option V} : Sta K q G0 H0 G H (σ.set i v) (Δ.set i .no) := by
  refine s.weak (by rw [List.length_set, List.length_set]; exact s.rs.len) fun j e he => ?_
  by_cases c : i = j
  · subst c
    have hl : i < Δ.length := by
      have := (List.getElem?_eq_some_iff.mp he).1
      simpa using this
    rw [List.getElem?_set_self hl] at he
    cases he
    exact .inl rfl
  · rw [List.getElem?_set_ne c] at he ⊢
    exact .inr ⟨he, rfl⟩
/-- a growing list is changed -/
theorem Sta.change (s : Sta K q G0 H0 G H σ Δ) {i : Nat} {p : Addr} {ds es : List D} {ws : List V} (hi : Δ[i]? = some (Sl.own ds)) (hp : σ[i]? = some (some (V.ref p))) (r : RpL K G ws es) :
    Sta K q G0 H0 G (upd H p (.lst ws)) σ (Δ.set i (.own es)) := by
  obtain ⟨p', vs, h1, h2, h3, h4, h5, h6⟩ := s.rs.own i ds hi
  have ep : p' = p := by rw [hp] at h1; cases h1; rfl
  subst ep
  have hl : i < Δ.length := (List.getElem?_eq_some_iff.mp hi).1
  have nop : ∀ {F : Hp} {a : Addr} {o : HO}, Nt F p' → F a = some o → (∀ ps, o ≠ HO.tbl ps) → a ≠ p' := fun n e nt z => by
    rw [z] at e
    obtain ⟨ps, h⟩ := n _ e
    exact nt ps h
  have subn : Exx G (upd H p' (.lst ws)) := fun a o e nt => by rw [upd_ne (nop h4 e nt)]; exact s.rs.sub a o e nt
  have dn : ∀ a T, q = some (a, T) → DiceAt H a ∧ LamX.Tabs T H → DiceAt (upd H p' (.lst ws)) a ∧ LamX.Tabs T (upd H p' (.lst ws)) := fun a T c ⟨⟨x, y, z, e⟩, t⟩ => by
    have : a ≠ p' := fun z => by rw [z] at c; exact h6 T c
    exact ⟨⟨x, y, z, by rw [upd_ne this]; exact e⟩, Tbd.chg h2 T t⟩
  refine ⟨⟨s.gr.ex, s.gr.nw, subn, fun a o c e nt => ?_, fun c T t => Tbd.chg h2 T (s.gr.tk c T t), fun a T c d => dn a T c (s.gr.dq a T c d)⟩, s.hq, subn, by rw [List.length_set]; exact s.rs.len, fun a T c => ⟨(s.rs.gq a T c).1, dn a T c (s.rs.gq a T c).2⟩, fun j e he => ?_, fun j bs he => ?_, fun j k bs cs p h1' h2' h3' h4' => ?_, fun j T he => ?_⟩
  · rw [upd_ne (nop h5 e nt)]; exact s.gr.keep a o c e nt
  · have nj : i ≠ j := fun c => by
      subst c
      rw [List.getElem?_set_self hl] at he; cases he
    rw [List.getElem?_set_ne nj] at he
    exact s.rs.dat j e he
  · by_cases c : i = j
    · subst c
      rw [List.getElem?_set_self hl] at he
      cases he
      exact ⟨p', ws, hp, upd_same, r, h4, h5, h6⟩
    · rw [List.getElem?_set_ne c] at he
      obtain ⟨p2, vs2, g1, g2, g3, g4, g5, g6⟩ := s.rs.own j bs he
      have : p2 ≠ p' := fun z => c (s.rs.dif i j ds bs p' hi he hp (by rw [z] at g1; exact g1))
      exact ⟨p2, vs2, g1, by rw [upd_ne this]; exact g2, g3, g4, g5, g6⟩
  · have back : ∀ {l : Nat} {as : List D}, (Δ.set i (.own es))[l]? = some (Sl.own as) → ∃ as', Δ[l]? = some (Sl.own as') := fun {l as} e => by
      by_cases c : i = l
      · subst c; exact ⟨ds, hi⟩
      · rw [List.getElem?_set_ne c] at e; exact ⟨as, e⟩
    obtain ⟨b1, e1⟩ := back h1'
    obtain ⟨b2, e2⟩ := back h2'
    exact s.rs.dif j k b1 b2 p e1 e2 h3' h4'
  · have nj : i ≠ j := fun c => by
      subst c
      rw [List.getElem?_set_self hl] at he; cases he
    rw [List.getElem?_set_ne nj] at he
    exact s.rs.dice j T he
/-- a new list of one's own: at p, the slot i holds it -/
theorem Sta.newMut (s : Sta K q G0 H0 G H σ Δ) {i : Nat} {p : Addr} {ds : List D} {vs : List V} (hp : H p = none) (r : RpL K G vs ds) :
    Sta K q G0 H0 G (upd H p (.lst vs)) (σ.set i (some (V.ref p))) (Δ.set i (.own ds)) := by
  have hGp : Nt G p := fun o c => Classical.byContradiction fun n => by
    rw [s.rs.sub p o c (fun ps z => n ⟨ps, z⟩)] at hp; cases hp
  have hH0 : Nt H0 p := s.gr.live s.hq (.of hp)
  have hqp : ∀ T, q ≠ some (p, T) := fun T c => by
    obtain ⟨x, y, z, e⟩ := (s.rs.gq p T c).2.1
    rw [hp] at e; cases e
  have nop : ∀ {F : Hp} {a : Addr} {o : HO}, Nt F p → F a = some o → (∀ ps, o ≠ HO.tbl ps) → a ≠ p := fun n e nt z => by
    rw [z] at e
    obtain ⟨ps, h⟩ := n _ e
    exact nt ps h
  have subn : Exx G (upd H p (.lst vs)) := fun a o e nt => by rw [upd_ne (nop hGp e nt)]; exact s.rs.sub a o e nt
  have dn : ∀ a T, q = some (a, T) → DiceAt H a ∧ LamX.Tabs T H → DiceAt (upd H p (.lst vs)) a ∧ LamX.Tabs T (upd H p (.lst vs)) := fun a T c ⟨⟨x, y, z, e⟩, t⟩ => by
    have : a ≠ p := fun z => by rw [z] at c; exact hqp T c
    exact ⟨⟨x, y, z, by rw [upd_ne this]; exact e⟩, Tbd.new hp T t⟩
  have len' : (σ.set i (some (V.ref p))).length = (Δ.set i (.own ds)).length := by rw [List.length_set, List.length_set]; exact s.rs.len
  have old : ∀ {j : Nat} {e : Sl}, (Δ.set i (Sl.own ds))[j]? = some e → (j = i ∧ e = .own ds ∧ i < Δ.length) ∨ (j ≠ i ∧ Δ[j]? = some e ∧ (σ.set i (some (V.ref p)))[j]? = σ[j]?) := fun {j e} he => by
    by_cases c : i = j
    · subst c
      have hl : i < Δ.length := by
        have := (List.getElem?_eq_some_iff.mp he).1
        simpa using this
      rw [List.getElem?_set_self hl] at he
      cases he
      exact .inl ⟨rfl, rfl, hl⟩
    · rw [List.getElem?_set_ne c] at he
      exact .inr ⟨fun z => c z.symm, he, List.getElem?_set_ne c⟩
  refine ⟨⟨s.gr.ex, s.gr.nw, subn, fun a o c e nt => ?_, fun c T t => Tbd.new hp T (s.gr.tk c T t), fun a T c d => dn a T c (s.gr.dq a T c d)⟩, s.hq, subn, len', fun a T c => ⟨(s.rs.gq a T c).1, dn a T c (s.rs.gq a T c).2⟩, fun j e he => ?_, fun j bs he => ?_, fun j k bs cs p2 h1' h2' h3' h4' => ?_, fun j T he => ?_⟩
  · rw [upd_ne (nop hH0 e nt)]; exact s.gr.keep a o c e nt
  · rcases old he with ⟨_, c, _⟩ | ⟨_, c, c2⟩
    · cases c
    · rw [c2]; exact s.rs.dat j e c
  · rcases old he with ⟨c1, c, hl⟩ | ⟨_, c, c2⟩
    · cases c
      subst c1
      exact ⟨p, vs, List.getElem?_set_self (by rw [s.rs.len]; exact hl), upd_same, r, hGp, hH0, hqp⟩
    · obtain ⟨p2, vs2, g1, g2, g3, g4, g5, g6⟩ := s.rs.own j bs c
      have : p2 ≠ p := fun z => by rw [z, hp] at g2; cases g2
      exact ⟨p2, vs2, by rw [c2]; exact g1, by rw [upd_ne this]; exact g2, g3, g4, g5, g6⟩
  · have other : ∀ {l : Nat} {as : List D}, l ≠ i → Δ[l]? = some (Sl.own as) → (σ.set i (some (V.ref p)))[l]? = σ[l]? → (σ.set i (some (V.ref p)))[l]? ≠ some (some (V.ref p)) := fun {l as} n e e2 z => by
      obtain ⟨p3, vs3, g1, g2, _⟩ := s.rs.own l as e
      rw [e2, g1] at z
      cases z
      rw [hp] at g2; cases g2
    have self : ∀ {l : Nat}, l = i → i < Δ.length → (σ.set i (some (V.ref p)))[l]? = some (some (V.ref p)) := fun {l} e hl => by
      subst e
      exact List.getElem?_set_self (by rw [s.rs.len]; exact hl)
    rcases old h1' with ⟨c1, _, hl⟩ | ⟨n1, c1, e1⟩
    · rcases old h2' with ⟨c2, _, _⟩ | ⟨n2, c2, e2⟩
      · rw [c1, c2]
      · rw [self c1 hl] at h3'
        cases h3'
        exact absurd h4' (other n2 c2 e2)
    · rcases old h2' with ⟨c2, _, hl⟩ | ⟨n2, c2, e2⟩
      · rw [self c2 hl] at h4'
        cases h4'
        exact absurd h3' (other n1 c1 e1)
      · rw [e1] at h3'
        rw [e2] at h4'
        exact s.rs.dif j k bs cs p2 c1 c2 h3' h4'
  · rcases old he with ⟨_, c, _⟩ | ⟨_, c, c2⟩
    · cases c
    · rw [c2]; exact s.rs.dice j T c
/-- a list of one's own is frozen -/
theorem Sta.freeze (s : Sta K q G0 H0 G H σ Δ) {i : Nat} {ds : List D} (hi : Δ[i]? = some (Sl.own ds)) : ∃ G', Exx G G' ∧ Sta K q G0 H0 G' H σ (Δ.set i (.dat (.lst ds))) := by
  obtain ⟨p, vs, h1, h2, h3, h4, h5, h6⟩ := s.rs.own i ds hi
  have hl : i < Δ.length := (List.getElem?_eq_some_iff.mp hi).1
  have nop : ∀ {F : Hp} {a : Addr} {o : HO}, Nt F p → F a = some o → (∀ ps, o ≠ HO.tbl ps) → a ≠ p := fun n e nt z => by
    rw [z] at e
    obtain ⟨ps, h⟩ := n _ e
    exact nt ps h
  have exn : Exx G (upd G p (.lst vs)) := fun a o e nt => by rw [upd_ne (nop h4 e nt)]; exact e
  have subn : Exx (upd G p (.lst vs)) H := fun a o e nt => by
    by_cases c : a = p
    · rw [c, upd_same] at e; rw [c, ← e]; exact h2
    · rw [upd_ne c] at e; exact s.rs.sub a o e nt
  refine ⟨upd G p (.lst vs), exn, ⟨s.gr.ex.trans exn, fun a o e => ?_, subn, s.gr.keep, s.gr.tk, s.gr.dq⟩, s.hq, subn, by rw [List.length_set]; exact s.rs.len, fun a T c => ?_, fun j e he => ?_, fun j bs he => ?_, fun j k bs cs p2 h1' h2' h3' h4' => ?_, fun j T he => ?_⟩
  · by_cases c : a = p
    · rw [c]; exact .inr h5
    · rw [upd_ne c] at e; exact s.gr.nw a o e
  · obtain ⟨e1, e2⟩ := s.rs.gq a T c
    have : a ≠ p := fun z => by rw [z] at c; exact h6 T c
    exact ⟨fun o e => by rw [upd_ne this] at e; exact e1 o e, e2⟩
  · by_cases c : i = j
    · subst c
      rw [List.getElem?_set_self hl] at he
      cases he
      exact ⟨.ref p, h1, .lst upd_same (h3.ex exn)⟩
    · rw [List.getElem?_set_ne c] at he
      obtain ⟨v, g1, g2⟩ := s.rs.dat j e he
      exact ⟨v, g1, g2.ex exn⟩
  · have nj : i ≠ j := fun c => by
      subst c
      rw [List.getElem?_set_self hl] at he; cases he
    rw [List.getElem?_set_ne nj] at he
    obtain ⟨p2, vs2, g1, g2, g3, g4, g5, g6⟩ := s.rs.own j bs he
    have : p2 ≠ p := fun z => nj (s.rs.dif i j ds bs p hi he h1 (by rw [z] at g1; exact g1))
    exact ⟨p2, vs2, g1, g2, g3.ex exn, fun o e => by rw [upd_ne this] at e; exact g4 o e, g5, g6⟩
  · have nj : i ≠ j := fun c => by
      subst c
      rw [List.getElem?_set_self hl] at h1'; cases h1'
    have nk : i ≠ k := fun c => by
      subst c
      rw [List.getElem?_set_self hl] at h2'; cases h2'
    rw [List.getElem?_set_ne nj] at h1'
    rw [List.getElem?_set_ne nk] at h2'
    exact s.rs.dif j k bs cs p2 h1' h2' h3' h4'
  · have nj : i ≠ j := fun c => by
      subst c
      rw [List.getElem?_set_self hl] at he; cases he
    rw [List.getElem?_set_ne nj] at he
    exact s.rs.dice j T he
end
end Ts


namespace Ts
open PySem L2

/-! ### expressions -/
section
variable (K : PySem.W.Frag) (E : L2.St → XK)
/-- te has some datum of R; it may raise one of X -/
def Ev (te : TE) (Δ : En) (R : D → Prop) (X : Addr → Prop) : Prop :=
  ∀ (q : Qd) (G0 H0 G H : Hp) (σ : L2.St) (Q : VK), Sta K q G0 H0 G H σ Δ →
    (∀ (v : V) (d : D) (G' H' : Hp), Gr q G H G' H' → Rp K G' v d → R d → Q v H') →
    (∀ (C : Addr) (G' H' : Hp), Gr q G H G' H' → X C → E σ (.ref C) none H') → te σ H Q
def Et (tt : TT) (Δ : En) (R : Bool → Prop) (X : Addr → Prop) : Prop :=
  ∀ (q : Qd) (G0 H0 G H : Hp) (σ : L2.St) (Q : Bool → Hp → Prop), Sta K q G0 H0 G H σ Δ →
    (∀ (b : Bool) (G' H' : Hp), Gr q G H G' H' → R b → Q b H') →
    (∀ (C : Addr) (G' H' : Hp), Gr q G H G' H' → X C → E σ (.ref C) none H') → tt σ H Q
def Ea (ta : TA) (Δ : En) (R : List D → Prop) (X : Addr → Prop) : Prop :=
  ∀ (q : Qd) (G0 H0 G H : Hp) (σ : L2.St) (Q : List V → Hp → Prop), Sta K q G0 H0 G H σ Δ →
    (∀ (vs : List V) (ds : List D) (G' H' : Hp), Gr q G H G' H' → RpL K G' vs ds → R ds → Q vs H') →
    (∀ (C : Addr) (G' H' : Hp), Gr q G H G' H' → X C → E σ (.ref C) none H') → ta σ H Q
def Eo (to : TO) (Δ : En) (R : Option Int → Prop) (X : Addr → Prop) : Prop :=
  ∀ (q : Qd) (G0 H0 G H : Hp) (σ : L2.St) (Q : Option Int → Hp → Prop), Sta K q G0 H0 G H σ Δ →
    (∀ (o : Option Int) (G' H' : Hp), Gr q G H G' H' → R o → Q o H') →
    (∀ (C : Addr) (G' H' : Hp), Gr q G H G' H' → X C → E σ (.ref C) none H') → to σ H Q
end
/-- operations by data: on two, on one, a call -/
def OpD (K : PySem.W.Frag) (r : R2) (x y : D) (R : D → Prop) : Prop := ∀ (G H : Hp) (v w : V) (Q : VK), Exx G H → Rp K G v x → Rp K G w y →
  (∀ (u : V) (d : D) (G' H' : Hp), Gr none G H G' H' → Rp K G' u d → R d → Q u H') → r v w H Q
def UnD (K : PySem.W.Frag) (r : V → Hp → VK → Prop) (x : D) (R : D → Prop) : Prop := ∀ (G H : Hp) (v : V) (Q : VK), Exx G H → Rp K G v x →
  (∀ (u : V) (d : D) (G' H' : Hp), Gr none G H G' H' → Rp K G' u d → R d → Q u H') → r v H Q
def CbD (K : PySem.W.Frag) (r : List V → Hp → VK → Prop) (xs : List D) (R : D → Prop) : Prop := ∀ (G H : Hp) (vs : List V) (Q : VK), Exx G H → RpL K G vs xs →
  (∀ (u : V) (d : D) (G' H' : Hp), Gr none G H G' H' → Rp K G' u d → R d → Q u H') → r vs H Q
def SlD (K : PySem.W.Frag) (r : V → Option Int → Option Int → Hp → VK → Prop) (x : D) (lo hi : Option Int) (R : D → Prop) : Prop := ∀ (G H : Hp) (v : V) (Q : VK), Exx G H → Rp K G v x →
  (∀ (u : V) (d : D) (G' H' : Hp), Gr none G H G' H' → Rp K G' u d → R d → Q u H') → r v lo hi H Q

section
variable {K : PySem.W.Frag} {E : L2.St → XK} {Δ : En} {te ta tb tc : TE} {tt tu : TT} {R Ra Rb : D → Prop} {X : Addr → Prop}
theorem Ev.mono {R' : D → Prop} {X' : Addr → Prop} (h : Ev K E te Δ R X) (hr : ∀ d, R d → R' d) (hx : ∀ C, X C → X' C) : Ev K E te Δ R' X' :=
  fun q G0 H0 G H σ Q s k kx => h q G0 H0 G H σ Q s (fun v d G' H' g r rd => k v d G' H' g r (hr d rd)) fun C G' H' g x => kx C G' H' g (hx C x)
theorem Ev.imp {R' : D → Prop} (h : Ev K E te Δ R X) (hr : ∀ d, R d → R' d) : Ev K E te Δ R' X := h.mono hr fun _ x => x
theorem Et.mono {R R' : Bool → Prop} {X' : Addr → Prop} (h : Et K E tt Δ R X) (hr : ∀ d, R d → R' d) (hx : ∀ C, X C → X' C) : Et K E tt Δ R' X' :=
  fun q G0 H0 G H σ Q s k kx => h q G0 H0 G H σ Q s (fun b G' H' g rd => k b G' H' g (hr b rd)) fun C G' H' g x => kx C G' H' g (hx C x)
theorem Et.imp {R R' : Bool → Prop} (h : Et K E tt Δ R X) (hr : ∀ d, R d → R' d) : Et K E tt Δ R' X := h.mono hr fun _ x => x
theorem Ea.imp {ta : TA} {R R' : List D → Prop} (h : Ea K E ta Δ R X) (hr : ∀ d, R d → R' d) : Ea K E ta Δ R' X :=
  fun q G0 H0 G H σ Q s k kx => h q G0 H0 G H σ Q s (fun v d G' H' g r rd => k v d G' H' g r (hr d rd)) kx
theorem ev_var {i : Nat} {d : D} (h : Δ[i]? = some (Sl.dat d)) : Ev K E (tVar i) Δ (· = d) X := fun q G0 H0 G H σ Q s k _ => by
  obtain ⟨v, h1, h2⟩ := s.rs.dat i d h
  exact ⟨v, h1, k v d G H s.rf h2 rfl⟩
theorem ev_int {i : Int} : Ev K E (tC (.int i)) Δ (· = .int i) X := fun q G0 H0 G H σ Q s k _ => k _ _ G H s.rf (.int i) rfl
theorem ev_str {x : Str} : Ev K E (tC (.str x)) Δ (· = .str x) X := fun q G0 H0 G H σ Q s k _ => k _ _ G H s.rf (.str x) rfl
theorem ev_bl {b : Bool} : Ev K E (tC (.bl b)) Δ (· = .bl b) X := fun q G0 H0 G H σ Q s k _ => k _ _ G H s.rf (.bl b) rfl
theorem ev_non : Ev K E (tC .non) Δ (· = .non) X := fun q G0 H0 G H σ Q s k _ => k _ _ G H s.rf .non rfl
/-- a constant of the module that is a tuple -/
theorem ev_ctup {a : Addr} {xs : List V} {ds : List D} (h : ∀ H, SqT K H a xs) (r : ∀ G, RpL K G xs ds) : Ev K E (tC (.ref a)) Δ (· = .tup ds) X := fun q G0 H0 G H σ Q s k _ => k _ _ G H s.rf (.tup (h G) (r G)) rfl
theorem ev_op {r : R2} (ha : Ev K E ta Δ Ra X) (hb : Ev K E tb Δ Rb X) (hr : ∀ x y, Ra x → Rb y → OpD K r x y R) : Ev K E (tOp r ta tb) Δ R X := fun q G0 H0 G H σ Q s k kx =>
  ha q G0 H0 G H σ _ s (fun v x G1 H1 g1 r1 p1 => hb q G0 H0 G1 H1 σ _ (s.go g1) (fun w y G2 H2 g2 r2 p2 =>
    hr x y p1 p2 G2 H2 v w Q g2.sub (r1.ex g2.ex) r2 fun u d G3 H3 g rd p3 => k u d G3 H3 (s.tr (s.tr g1 g2) g.any) rd p3) fun C G' H' g x => kx C G' H' (s.tr g1 g) x) kx
theorem ev_un {r : V → Hp → VK → Prop} (ha : Ev K E ta Δ Ra X) (hr : ∀ x, Ra x → UnD K r x R) : Ev K E (tUn r ta) Δ R X := fun q G0 H0 G H σ Q s k kx =>
  ha q G0 H0 G H σ _ s (fun v x G1 H1 g1 r1 p1 => hr x p1 G1 H1 v Q g1.sub r1 fun u d G3 H3 g rd p3 => k u d G3 H3 (s.tr g1 g.any) rd p3) kx
/-! the same, with one value each -/
theorem ev1_op {r : R2} {x y z : D} (ha : Ev K E ta Δ (· = x) X) (hb : Ev K E tb Δ (· = y) X) (hr : OpD K r x y (· = z)) : Ev K E (tOp r ta tb) Δ (· = z) X := ev_op ha hb fun a b e1 e2 => by subst e1; subst e2; exact hr
theorem ev1_un {r : V → Hp → VK → Prop} {x z : D} (ha : Ev K E ta Δ (· = x) X) (hr : UnD K r x (· = z)) : Ev K E (tUn r ta) Δ (· = z) X := ev_un ha fun a e1 => by subst e1; exact hr
theorem ev_is {d d' : D} (h : Ev K E te Δ (· = d) X) (e : d = d') : Ev K E te Δ (· = d') X := by subst e; exact h
/-! tests -/
theorem et_val {R : Bool → Prop} (h : Ev K E te Δ (fun d => ∃ b, d = .bl b ∧ R b) X) : Et K E (tTest te) Δ R X := fun q G0 H0 G H σ Q s k kx =>
  h q G0 H0 G H σ _ s (fun v d G1 H1 g1 r1 p1 => by
    obtain ⟨b, rfl, hb⟩ := p1
    cases r1
    exact ⟨b, rfl, k b G1 H1 g1 hb⟩) kx
theorem et_B {R : Bool → Prop} (h : Ev K E te Δ (fun d => ∃ b, d = .bl b ∧ R b) X) : Et K E (tB te) Δ R X := et_val h
theorem et1_val {b : Bool} (h : Ev K E te Δ (· = .bl b) X) : Et K E (tTest te) Δ (· = b) X := et_val (h.imp fun d e => ⟨b, e, rfl⟩)
theorem et1_B {b : Bool} (h : Ev K E te Δ (· = .bl b) X) : Et K E (tB te) Δ (· = b) X := et_B (h.imp fun d e => ⟨b, e, rfl⟩)
theorem et_and {R1 R2 R : Bool → Prop} (h1 : Et K E tt Δ R1 X) (h2 : R1 true → Et K E tu Δ R2 X) (t1 : ∀ b, R1 true → R2 b → R b) (t2 : R1 false → R false) : Et K E (tAnd tt tu) Δ R X := fun q G0 H0 G H σ Q s k kx =>
  h1 q G0 H0 G H σ _ s (fun b G1 H1 g1 p1 => by
    cases b with
    | true => exact iteT (h2 p1 q G0 H0 G1 H1 σ Q (s.go g1) (fun c G2 H2 g2 p2 => k c G2 H2 (s.tr g1 g2) (t1 c p1 p2)) fun C G' H' g x => kx C G' H' (s.tr g1 g) x)
    | false => exact iteF (k false G1 H1 g1 (t2 p1))) kx
theorem et_or {R1 R2 R : Bool → Prop} (h1 : Et K E tt Δ R1 X) (h2 : R1 false → Et K E tu Δ R2 X) (t1 : ∀ b, R1 false → R2 b → R b) (t2 : R1 true → R true) : Et K E (tOr tt tu) Δ R X := fun q G0 H0 G H σ Q s k kx =>
  h1 q G0 H0 G H σ _ s (fun b G1 H1 g1 p1 => by
    cases b with
    | false => exact iteF (h2 p1 q G0 H0 G1 H1 σ Q (s.go g1) (fun c G2 H2 g2 p2 => k c G2 H2 (s.tr g1 g2) (t1 c p1 p2)) fun C G' H' g x => kx C G' H' (s.tr g1 g) x)
    | true => exact iteT (k true G1 H1 g1 (t2 p1))) kx
theorem et_not {R : Bool → Prop} (h1 : Et K E tt Δ (fun b => R (!b)) X) : Et K E (tNot tt) Δ R X := fun q G0 H0 G H σ Q s k kx =>
  h1 q G0 H0 G H σ _ s (fun b G1 H1 g1 p1 => k (!b) G1 H1 g1 p1) kx
theorem et1_not {b : Bool} (h1 : Et K E tt Δ (· = b) X) : Et K E (tNot tt) Δ (· = !b) X := et_not (h1.imp fun d e => by rw [e])
theorem et1_and {a b : Bool} (h1 : Et K E tt Δ (· = a) X) (h2 : a = true → Et K E tu Δ (· = b) X) : Et K E (tAnd tt tu) Δ (· = (a && b)) X := by
  cases a with
  | true => exact et_and h1 (fun e => h2 rfl) (fun c e1 e2 => by rw [e2]; rfl) fun e => by cases e
  | false => exact et_and (R2 := fun _ => True) h1 (fun e => by cases e) (fun c e1 e2 => by cases e1) fun e => rfl
theorem et1_or {a b : Bool} (h1 : Et K E tt Δ (· = a) X) (h2 : a = false → Et K E tu Δ (· = b) X) : Et K E (tOr tt tu) Δ (· = (a || b)) X := by
  cases a with
  | false => exact et_or h1 (fun e => h2 rfl) (fun c e1 e2 => by rw [e2]; rfl) fun e => by cases e
  | true => exact et_or (R2 := fun _ => True) h1 (fun e => by cases e) (fun c e1 e2 => by cases e1) fun e => rfl
theorem et_is {b b' : Bool} (h : Et K E tt Δ (· = b) X) (e : b = b') : Et K E tt Δ (· = b') X := by subst e; exact h
/-! and, or, not, if as values -/
theorem ev_andV {R1 : Bool → Prop} (h1 : Ev K E ta Δ (fun d => ∃ b, d = .bl b ∧ R1 b) X) (h2 : R1 true → Ev K E tb Δ R X) (t2 : R1 false → R (.bl false)) : Ev K E (tAndV ta tb) Δ R X := fun q G0 H0 G H σ Q s k kx =>
  h1 q G0 H0 G H σ _ s (fun v d G1 H1 g1 r1 p1 => by
    obtain ⟨b, rfl, p⟩ := p1
    cases r1
    refine ⟨b, rfl, ?_⟩
    cases b with
    | true => exact iteT (h2 p q G0 H0 G1 H1 σ Q (s.go g1) (fun v c G2 H2 g2 r2 p2 => k v c G2 H2 (s.tr g1 g2) r2 p2) fun C G' H' g x => kx C G' H' (s.tr g1 g) x)
    | false => exact iteF (k _ _ G1 H1 g1 (.bl false) (t2 p))) kx
theorem ev_orV {R1 : Bool → Prop} (h1 : Ev K E ta Δ (fun d => ∃ b, d = .bl b ∧ R1 b) X) (h2 : R1 false → Ev K E tb Δ R X) (t2 : R1 true → R (.bl true)) : Ev K E (tOrV ta tb) Δ R X := fun q G0 H0 G H σ Q s k kx =>
  h1 q G0 H0 G H σ _ s (fun v d G1 H1 g1 r1 p1 => by
    obtain ⟨b, rfl, p⟩ := p1
    cases r1
    refine ⟨b, rfl, ?_⟩
    cases b with
    | false => exact iteF (h2 p q G0 H0 G1 H1 σ Q (s.go g1) (fun v c G2 H2 g2 r2 p2 => k v c G2 H2 (s.tr g1 g2) r2 p2) fun C G' H' g x => kx C G' H' (s.tr g1 g) x)
    | true => exact iteT (k _ _ G1 H1 g1 (.bl true) (t2 p))) kx
theorem ev1_andV {a b : Bool} (h1 : Ev K E ta Δ (· = .bl a) X) (h2 : a = true → Ev K E tb Δ (· = .bl b) X) : Ev K E (tAndV ta tb) Δ (· = .bl (a && b)) X := by
  cases a with
  | true => exact ev_andV (R1 := (· = true)) (h1.imp fun d e => ⟨true, e, rfl⟩) (fun e => (h2 rfl).imp fun d z => by rw [z]; rfl) fun e => by cases e
  | false => exact ev_andV (R1 := (· = false)) (h1.imp fun d e => ⟨false, e, rfl⟩) (fun e => by cases e) fun e => rfl
theorem ev1_orV {a b : Bool} (h1 : Ev K E ta Δ (· = .bl a) X) (h2 : a = false → Ev K E tb Δ (· = .bl b) X) : Ev K E (tOrV ta tb) Δ (· = .bl (a || b)) X := by
  cases a with
  | false => exact ev_orV (R1 := (· = false)) (h1.imp fun d e => ⟨false, e, rfl⟩) (fun e => (h2 rfl).imp fun d z => by rw [z]; rfl) fun e => by cases e
  | true => exact ev_orV (R1 := (· = true)) (h1.imp fun d e => ⟨true, e, rfl⟩) (fun e => by cases e) fun e => rfl
theorem ev_notV {R : Bool → Prop} (h1 : Ev K E ta Δ (fun d => ∃ b, d = .bl b ∧ R (!b)) X) : Ev K E (tNotV ta) Δ (fun d => ∃ b, d = .bl b ∧ R b) X := fun q G0 H0 G H σ Q s k kx =>
  h1 q G0 H0 G H σ _ s (fun v d G1 H1 g1 r1 p1 => by
    obtain ⟨b, rfl, p⟩ := p1
    cases r1
    exact ⟨b, rfl, k _ _ G1 H1 g1 (.bl (!b)) ⟨_, rfl, p⟩⟩) kx
theorem ev1_notV {a : Bool} (h1 : Ev K E ta Δ (· = .bl a) X) : Ev K E (tNotV ta) Δ (· = .bl (!a)) X :=
  (ev_notV (R := (· = !a)) (h1.imp fun d e => ⟨a, e, rfl⟩)).imp fun d ⟨b, e1, e2⟩ => by rw [e1, e2]
theorem ev_if {R1 : Bool → Prop} (h : Et K E tt Δ R1 X) (h1 : R1 true → Ev K E ta Δ R X) (h2 : R1 false → Ev K E tb Δ R X) : Ev K E (tIf tt ta tb) Δ R X := fun q G0 H0 G H σ Q s k kx =>
  h q G0 H0 G H σ _ s (fun b G1 H1 g1 p => by
    cases b with
    | true => exact iteT (h1 p q G0 H0 G1 H1 σ Q (s.go g1) (fun v c G2 H2 g2 r2 p2 => k v c G2 H2 (s.tr g1 g2) r2 p2) fun C G' H' g x => kx C G' H' (s.tr g1 g) x)
    | false => exact iteF (h2 p q G0 H0 G1 H1 σ Q (s.go g1) (fun v c G2 H2 g2 r2 p2 => k v c G2 H2 (s.tr g1 g2) r2 p2) fun C G' H' g x => kx C G' H' (s.tr g1 g) x)) kx
theorem ev1_if {b : Bool} {x y : D} (h : Et K E tt Δ (· = b) X) (h1 : b = true → Ev K E ta Δ (· = x) X) (h2 : b = false → Ev K E tb Δ (· = y) X) : Ev K E (tIf tt ta tb) Δ (· = if b = true then x else y) X := by
  cases b with
  | true => exact ev_if h (fun e => (h1 rfl).imp fun d z => z) fun e => by cases e
  | false => exact ev_if h (fun e => by cases e) fun e => (h2 rfl).imp fun d z => z
/-! arguments, displays -/
theorem ea_nil : Ea K E tNil Δ (· = []) X := fun q G0 H0 G H σ Q s k _ => k [] [] G H s.rf .nil rfl
theorem ea_cons {tr : TA} {Rs : List D → Prop} {R' : List D → Prop} (h : Ev K E ta Δ R X) (hr : ∀ d, R d → Ea K E tr Δ Rs X) (t : ∀ d ds, R d → Rs ds → R' (d :: ds)) : Ea K E (tCons ta tr) Δ R' X := fun q G0 H0 G H σ Q s k kx =>
  h q G0 H0 G H σ _ s (fun v d G1 H1 g1 r1 p1 => hr d p1 q G0 H0 G1 H1 σ _ (s.go g1) (fun vs ds G2 H2 g2 r2 p2 => k _ _ G2 H2 (s.tr g1 g2) (.cons (r1.ex g2.ex) r2) (t d ds p1 p2)) fun C G' H' g x => kx C G' H' (s.tr g1 g) x) kx
theorem ea1_cons {tr : TA} {d : D} {ds : List D} (h : Ev K E ta Δ (· = d) X) (hr : Ea K E tr Δ (· = ds) X) : Ea K E (tCons ta tr) Δ (· = d :: ds) X := ea_cons h (fun _ _ => hr) fun a b e1 e2 => by rw [e1, e2]
theorem ev_tup {tr : TA} {Rs : List D → Prop} (h : Ea K E tr Δ Rs X) (hl : ∀ ds, Rs ds → ds.length ≤ sizeLine) (t : ∀ ds, Rs ds → R (.tup ds)) : Ev K E (tTup tr) Δ R X := fun q G0 H0 G H σ Q s k kx =>
  h q G0 H0 G H σ _ s (fun vs ds G1 H1 g1 r1 p1 => ⟨by rw [r1.length]; exact hl ds p1, fun p hp =>
    have g := Gr.new (o := .tup vs) g1.sub hp
    k _ _ _ _ (s.tr g1 g.any) (.tup (.inl (.inl upd_same)) (r1.ex g.ex)) (t ds p1)⟩) kx
theorem ev_lst {tr : TA} {Rs : List D → Prop} (h : Ea K E tr Δ Rs X) (hl : ∀ ds, Rs ds → ds.length ≤ sizeLine) (t : ∀ ds, Rs ds → R (.lst ds)) : Ev K E (tLst tr) Δ R X := fun q G0 H0 G H σ Q s k kx =>
  h q G0 H0 G H σ _ s (fun vs ds G1 H1 g1 r1 p1 => ⟨by rw [r1.length]; exact hl ds p1, fun p hp =>
    have g := Gr.new (o := .lst vs) g1.sub hp
    k _ _ _ _ (s.tr g1 g.any) (.lst upd_same (r1.ex g.ex)) (t ds p1)⟩) kx
theorem szl {n : Nat} (h : n ≤ 1000000 := by first | decide | (simp; done)) : n ≤ sizeLine := Nat.le_trans h (by rw [sizeLine_eq]; decide)
theorem szlt {n : Nat} (h : n < 1000000) : n < sizeLine := Nat.lt_of_lt_of_le h (by rw [sizeLine_eq]; decide)
theorem ev1_tup {tr : TA} {ds : List D} (h : Ea K E tr Δ (· = ds) X) (hl : ds.length ≤ sizeLine := by exact szl) : Ev K E (tTup tr) Δ (· = .tup ds) X := ev_tup h (fun _ e => by rw [e]; exact hl) fun _ e => by rw [e]
theorem ev1_lst {tr : TA} {ds : List D} (h : Ea K E tr Δ (· = ds) X) (hl : ds.length ≤ sizeLine := by exact szl) : Ev K E (tLst tr) Δ (· = .lst ds) X := ev_lst h (fun _ e => by rw [e]; exact hl) fun _ e => by rw [e]
theorem ev_cb {r : List V → Hp → VK → Prop} {tr : TA} {Rs : List D → Prop} (h : Ea K E tr Δ Rs X) (hr : ∀ ds, Rs ds → CbD K r ds R) : Ev K E (tCB r tr) Δ R X := fun q G0 H0 G H σ Q s k kx =>
  h q G0 H0 G H σ _ s (fun vs ds G1 H1 g1 r1 p1 => hr ds p1 G1 H1 vs Q g1.sub r1 fun u d G3 H3 g rd p3 => k u d G3 H3 (s.tr g1 g.any) rd p3) kx
theorem ev1_cb {r : List V → Hp → VK → Prop} {tr : TA} {ds : List D} {d : D} (h : Ea K E tr Δ (· = ds) X) (hr : CbD K r ds (· = d)) : Ev K E (tCB r tr) Δ (· = d) X := ev_cb h fun _ e => by subst e; exact hr
/-! slices -/
theorem eo_none : Eo K E tNoPart Δ (· = none) X := fun q G0 H0 G H σ Q s k _ => k none G H s.rf rfl
theorem eo_some {Ro : Option Int → Prop} (h : Ev K E te Δ (fun d => ∃ i, d = .int i ∧ Ro (some i)) X) : Eo K E (tPart te) Δ Ro X := fun q G0 H0 G H σ Q s k kx =>
  h q G0 H0 G H σ _ s (fun v d G1 H1 g1 r1 p1 => by
    obtain ⟨i, rfl, p⟩ := p1
    cases r1
    exact ⟨i, rfl, k _ G1 H1 g1 p⟩) kx
theorem eo1_some {i : Int} (h : Ev K E te Δ (· = .int i) X) : Eo K E (tPart te) Δ (· = some i) X := eo_some (h.imp fun d e => ⟨i, e, rfl⟩)
theorem ev_sl {r : V → Option Int → Option Int → Hp → VK → Prop} {tl th : TO} {Rl Rh : Option Int → Prop} (h : Ev K E te Δ Ra X) (h1 : Eo K E tl Δ Rl X) (h2 : Eo K E th Δ Rh X) (hr : ∀ x l u, Ra x → Rl l → Rh u → SlD K r x l u R) : Ev K E (tSl r te tl th) Δ R X := fun q G0 H0 G H σ Q s k kx =>
  h q G0 H0 G H σ _ s (fun v x G1 H1 g1 r1 p1 => h1 q G0 H0 G1 H1 σ _ (s.go g1) (fun l G2 H2 g2 p2 => h2 q G0 H0 G2 H2 σ _ (s.go (s.tr g1 g2)) (fun u G3 H3 g3 p3 =>
    hr x l u p1 p2 p3 G3 H3 v Q g3.sub (r1.ex (g2.ex.trans g3.ex)) fun z d G4 H4 g rd p4 => k z d G4 H4 (s.tr (s.tr (s.tr g1 g2) g3) g.any) rd p4) fun C G' H' g x => kx C G' H' (s.tr (s.tr g1 g2) g) x) fun C G' H' g x => kx C G' H' (s.tr g1 g) x) kx
theorem ev1_sl {r : V → Option Int → Option Int → Hp → VK → Prop} {tl th : TO} {lo hi : Option Int} {x d : D} (h : Ev K E te Δ (· = x) X) (h1 : Eo K E tl Δ (· = lo) X) (h2 : Eo K E th Δ (· = hi) X) (hr : SlD K r x lo hi (· = d)) : Ev K E (tSl r te tl th) Δ (· = d) X :=
  ev_sl h h1 h2 fun a b c e1 e2 e3 => by subst e1; subst e2; subst e3; exact hr
/-! fields of a frozen instance -/
theorem ev_fld {f : Str} {C : Addr} {fs : List (Str × D)} {d : D} (h : Ev K E ta Δ (· = .obj C fs) X) (hc : Cls K C) (hn : NoAttr K C f) (hl : fs.lookup f = some d) : Ev K E (tFld K ta f) Δ (· = d) X := fun q G0 H0 G H σ Q s k kx =>
  h q G0 H0 G H σ _ s (fun v x G1 H1 g1 r1 p1 => by
    subst p1
    obtain ⟨a, dx, vs, rfl, ho, rf⟩ := r1.obj_inv
    obtain ⟨u, hu, ru⟩ := rf.look hl
    exact ⟨a, C, dx, vs, u, rfl, g1.sub.i ho, hc, hn, hu, k u d G1 H1 g1 ru rfl⟩) kx

/-! ### calls: promises over data -/
inductive Res where
  | ret (d : D) | exc (C : Addr)
/-- a def of data -/
def spD (K : PySem.W.Frag) (pre : List D → Prop) (post : List D → Res → Prop) : Sp := fun vs H Q E => ∃ (G : Hp) (ds : List D), Exx G H ∧ RpL K G vs ds ∧ pre ds ∧
  (∀ (v : V) (d : D) (G' H' : Hp), Gr none G H G' H' → Rp K G' v d → post ds (.ret d) → Q v H') ∧ (∀ (C : Addr) (G' H' : Hp), Gr none G H G' H' → post ds (.exc C) → E (.ref C) none H')
/-- a def that gets the dice ahead of data -/
def spQ (K : PySem.W.Frag) (T : Tb) (pre : List D → Prop) (post : List D → Res → Prop) : Sp := fun vs H Q E => ∃ (G : Hp) (a : Addr) (ws : List V) (ds : List D), vs = .ref a :: ws ∧ Exx G H ∧ Nt G a ∧ (DiceAt H a ∧ LamX.Tabs T H) ∧ RpL K G ws ds ∧ pre ds ∧
  (∀ (v : V) (d : D) (G' H' : Hp), Gr (some (a, T)) G H G' H' → Rp K G' v d → post ds (.ret d) → Q v H') ∧ (∀ (C : Addr) (G' H' : Hp), Gr (some (a, T)) G H G' H' → post ds (.exc C) → E (.ref C) none H')
theorem ev_call {tr : TA} {Rs : List D → Prop} {pre : List D → Prop} {post : List D → Res → Prop} (h : Ea K E tr Δ Rs X) (hp : ∀ ds, Rs ds → pre ds) (hr : ∀ ds d, Rs ds → post ds (.ret d) → R d) (hx : ∀ ds C, Rs ds → post ds (.exc C) → X C) :
    Ev K E (tCallS (spD K pre post) E tr) Δ R X := fun q G0 H0 G H σ Q s k kx =>
  h q G0 H0 G H σ _ s (fun vs ds G1 H1 g1 r1 p1 => ⟨G1, ds, g1.sub, r1, hp ds p1, fun v d G' H' g rd po => k v d G' H' (s.tr g1 g.any) rd (hr ds d p1 po), fun C G' H' g po => kx C G' H' (s.tr g1 g.any) (hx ds C p1 po)⟩) kx
theorem ev1_call {tr : TA} {ds : List D} {pre : List D → Prop} {post : List D → Res → Prop} {d : D} (h : Ea K E tr Δ (· = ds) X) (hp : pre ds) (hr : ∀ e, post ds (.ret e) → e = d) (hx : ∀ C, post ds (.exc C) → X C) :
    Ev K E (tCallS (spD K pre post) E tr) Δ (· = d) X := ev_call h (fun _ e => by rw [e]; exact hp) (fun _ e z => by rw [z]; exact hr e) fun _ C z => by rw [z]; exact hx C
theorem ev_callq {tr : TA} {Rs : List D → Prop} {pre : List D → Prop} {post : List D → Res → Prop} {i : Nat} {T : Tb} (hi : Δ[i]? = some (Sl.dice T)) (h : Ea K E tr Δ Rs X) (hp : ∀ ds, Rs ds → pre ds) (hr : ∀ ds d, Rs ds → post ds (.ret d) → R d)
    (hx : ∀ ds C, Rs ds → post ds (.exc C) → X C) : Ev K E (tCallS (spQ K T pre post) E (tCons (tVar i) tr)) Δ R X := fun q G0 H0 G H σ Q s k kx => by
  obtain ⟨a, rfl, ha⟩ := s.rs.dice i T hi
  refine ⟨_, ha, ?_⟩
  refine h (some (a, T)) G0 H0 G H σ _ s (fun vs ds G1 H1 g1 r1 p1 => ?_) kx
  obtain ⟨n1, d1⟩ := (s.go g1).rs.gq a T rfl
  exact ⟨G1, a, vs, ds, rfl, g1.sub, n1, d1, r1, hp ds p1, fun v d G' H' g rd po => k v d G' H' (s.tr g1 g) rd (hr ds d p1 po), fun C G' H' g po => kx C G' H' (s.tr g1 g) (hx ds C p1 po)⟩
end
end Ts


namespace Ts
open PySem L2

/-! ### statements -/
inductive Out where
  | nx (Δ : En) | rt (d : D) | bk (Δ : En) | ct (Δ : En) | ex (C : Addr) (Δ : En)
def Xs (K : PySem.W.Frag) (W : WX) (t : TS) (Δ : En) (post : Out → Prop) : Prop :=
  ∀ (q : Qd) (G0 H0 G H : Hp) (σ : L2.St) (T : Ends), Sta K q G0 H0 G H σ Δ →
    (∀ (σ' : L2.St) (Δ' : En) (G' H' : Hp), Exx G G' → Sta K q G0 H0 G' H' σ' Δ' → post (.nx Δ') → T.nx σ' H') →
    (∀ (v : V) (d : D) (G' H' : Hp), Gr q G0 H0 G' H' → Rp K G' v d → post (.rt d) → T.rt v H') →
    (∀ (σ' : L2.St) (Δ' : En) (G' H' : Hp), Exx G G' → Sta K q G0 H0 G' H' σ' Δ' → post (.bk Δ') → T.bk σ' H') →
    (∀ (σ' : L2.St) (Δ' : En) (G' H' : Hp), Exx G G' → Sta K q G0 H0 G' H' σ' Δ' → post (.ct Δ') → T.ct σ' H') →
    (∀ (C : Addr) (σ' : L2.St) (Δ' : En) (G' H' : Hp), Exx G G' → Sta K q G0 H0 G' H' σ' Δ' → post (.ex C Δ') → W (.ref C) none σ' H') → t T σ H
def thenP (K : PySem.W.Frag) (W : WX) (u : TS) (post : Out → Prop) : Out → Prop
  | .nx Δ => Xs K W u Δ post
  | o => post o
section
variable {K : PySem.W.Frag} {W : WX} {Δ : En} {t u : TS} {post post' : Out → Prop} {te ta tb : TE} {tt : TT} {R : D → Prop} {X : Addr → Prop}
theorem Xs.imp (h : Xs K W t Δ post) (hp : ∀ o, post o → post' o) : Xs K W t Δ post' := fun q G0 H0 G H σ T s k1 k2 k3 k4 k5 =>
  h q G0 H0 G H σ T s (fun σ' Δ' G' H' e s' p => k1 σ' Δ' G' H' e s' (hp _ p)) (fun v d G' H' g r p => k2 v d G' H' g r (hp _ p)) (fun σ' Δ' G' H' e s' p => k3 σ' Δ' G' H' e s' (hp _ p)) (fun σ' Δ' G' H' e s' p => k4 σ' Δ' G' H' e s' (hp _ p))
    fun C σ' Δ' G' H' e s' p => k5 C σ' Δ' G' H' e s' (hp _ p)
theorem xs_seq (h : Xs K W t Δ (thenP K W u post)) : Xs K W (tSeq t u) Δ post := fun q G0 H0 G H σ T s k1 k2 k3 k4 k5 =>
  h q G0 H0 G H σ { T with nx := u T } s (fun σ' Δ' G' H' e s' p => (show Xs K W u Δ' post from p) q G0 H0 G' H' σ' T s' (fun σ2 Δ2 G2 H2 e2 s2 p2 => k1 σ2 Δ2 G2 H2 (e.trans e2) s2 p2) k2 (fun σ2 Δ2 G2 H2 e2 s2 p2 => k3 σ2 Δ2 G2 H2 (e.trans e2) s2 p2)
    (fun σ2 Δ2 G2 H2 e2 s2 p2 => k4 σ2 Δ2 G2 H2 (e.trans e2) s2 p2) fun C σ2 Δ2 G2 H2 e2 s2 p2 => k5 C σ2 Δ2 G2 H2 (e.trans e2) s2 p2) k2 k3 k4 k5
theorem xs_next (h : post (.nx Δ)) : Xs K W tNext Δ post := fun q G0 H0 G H σ T s k1 k2 k3 k4 k5 => k1 σ Δ G H (Exx.refl _) s h
theorem xs_brk (h : post (.bk Δ)) : Xs K W tBreak Δ post := fun q G0 H0 G H σ T s k1 k2 k3 k4 k5 => k3 σ Δ G H (Exx.refl _) s h
theorem xs_cont (h : post (.ct Δ)) : Xs K W tCont Δ post := fun q G0 H0 G H σ T s k1 k2 k3 k4 k5 => k4 σ Δ G H (Exx.refl _) s h
theorem xs_expr (h : Ev K (WE W) te Δ R X) (hx : ∀ C, X C → post (.ex C Δ)) (k : post (.nx Δ)) : Xs K W (tDrop te) Δ post := fun q G0 H0 G H σ T s k1 k2 k3 k4 k5 =>
  h q G0 H0 G H σ _ s (fun v d G1 H1 g1 r1 p1 => k1 σ Δ G1 H1 g1.ex (s.go g1) k) fun C G1 H1 g x => k5 C σ Δ G1 H1 g.ex (s.go g) (hx C x)
theorem xs_ret (h : Ev K (WE W) te Δ R X) (hx : ∀ C, X C → post (.ex C Δ)) (k : ∀ d, R d → post (.rt d)) : Xs K W (tRet te) Δ post := fun q G0 H0 G H σ T s k1 k2 k3 k4 k5 =>
  h q G0 H0 G H σ _ s (fun v d G1 H1 g1 r1 p1 => k2 v d G1 H1 (s.go g1).gr r1 (k d p1)) fun C G1 H1 g x => k5 C σ Δ G1 H1 g.ex (s.go g) (hx C x)
theorem xs1_ret {d : D} (h : Ev K (WE W) te Δ (· = d) fun _ => False) (k : post (.rt d)) : Xs K W (tRet te) Δ post := xs_ret h (fun _ z => z.elim) fun e z => by rw [z]; exact k
theorem xs_retN (k : post (.rt .non)) : Xs K W tRetN Δ post := fun q G0 H0 G H σ T s k1 k2 k3 k4 k5 => k2 .non .non G H s.gr .non k
theorem xs_asg {i : Nat} (h : Ev K (WE W) te Δ R X) (hx : ∀ C, X C → post (.ex C Δ)) (k : ∀ d, R d → post (.nx (Δ.set i (.dat d)))) : Xs K W (tAsg te (gName i)) Δ post := fun q G0 H0 G H σ T s k1 k2 k3 k4 k5 =>
  h q G0 H0 G H σ _ s (fun v d G1 H1 g1 r1 p1 => k1 _ _ G1 H1 g1.ex ((s.go g1).set r1) (k d p1)) fun C G1 H1 g x => k5 C σ Δ G1 H1 g.ex (s.go g) (hx C x)
theorem xs1_asg {i : Nat} {d : D} (h : Ev K (WE W) te Δ (· = d) fun _ => False) (k : post (.nx (Δ.set i (.dat d)))) : Xs K W (tAsg te (gName i)) Δ post := xs_asg h (fun _ z => z.elim) fun e z => by rw [z]; exact k
theorem xs_if {Rt : Bool → Prop} (h : Et K (WE W) tt Δ Rt X) (hx : ∀ C, X C → post (.ex C Δ)) (h1 : Rt true → Xs K W t Δ post) (h2 : Rt false → Xs K W u Δ post) : Xs K W (tIfS tt t u) Δ post := fun q G0 H0 G H σ T s k1 k2 k3 k4 k5 =>
  h q G0 H0 G H σ _ s (fun b G1 H1 g1 p1 => by
    have go : ∀ {z : TS}, Xs K W z Δ post → z T σ H1 := fun {z} hz => hz q G0 H0 G1 H1 σ T (s.go g1) (fun σ2 Δ2 G2 H2 e2 s2 p2 => k1 σ2 Δ2 G2 H2 (g1.ex.trans e2) s2 p2) k2 (fun σ2 Δ2 G2 H2 e2 s2 p2 => k3 σ2 Δ2 G2 H2 (g1.ex.trans e2) s2 p2)
      (fun σ2 Δ2 G2 H2 e2 s2 p2 => k4 σ2 Δ2 G2 H2 (g1.ex.trans e2) s2 p2) fun C σ2 Δ2 G2 H2 e2 s2 p2 => k5 C σ2 Δ2 G2 H2 (g1.ex.trans e2) s2 p2
    cases b with
    | true => exact iteT (go (h1 p1))
    | false => exact iteF (go (h2 p1))) fun C G1 H1 g x => k5 C σ Δ G1 H1 g.ex (s.go g) (hx C x)
theorem xs1_if {b : Bool} (h : Et K (WE W) tt Δ (· = b) fun _ => False) (h1 : b = true → Xs K W t Δ post) (h2 : b = false → Xs K W u Δ post) : Xs K W (tIfS tt t u) Δ post := xs_if h (fun _ z => z.elim) (fun e => h1 e.symm) fun e => h2 e.symm
/-! own lists -/
theorem xs_new {i : Nat} {tr : TA} {Rs : List D → Prop} (h : Ea K (WE W) tr Δ Rs X) (hx : ∀ C, X C → post (.ex C Δ)) (hl : ∀ ds, Rs ds → ds.length ≤ sizeLine) (k : ∀ ds, Rs ds → post (.nx (Δ.set i (.own ds)))) : Xs K W (tAsg (tLst tr) (gName i)) Δ post := fun q G0 H0 G H σ T s k1 k2 k3 k4 k5 =>
  h q G0 H0 G H σ _ s (fun vs ds G1 H1 g1 r1 p1 => ⟨by rw [r1.length]; exact hl ds p1, fun p hp => k1 _ _ G1 _ g1.ex ((s.go g1).newMut hp r1) (k ds p1)⟩) fun C G1 H1 g x => k5 C σ Δ G1 H1 g.ex (s.go g) (hx C x)
theorem xs_new0 {i : Nat} (k : post (.nx (Δ.set i (.own [])))) : Xs K W (tAsg (tLst tNil) (gName i)) Δ post := xs_new (X := fun _ => False) ea_nil (fun _ z => z.elim) (fun _ e => by rw [e]; exact szl) fun ds e => by rw [e]; exact k
theorem xs_freeze {i : Nat} {ds : List D} (hi : Δ[i]? = some (Sl.own ds)) (h : Xs K W t (Δ.set i (.dat (.lst ds))) post) : Xs K W t Δ post := fun q G0 H0 G H σ T s k1 k2 k3 k4 k5 => by
  obtain ⟨G1, e1, s1⟩ := s.freeze hi
  exact h q G0 H0 G1 H σ T s1 (fun σ2 Δ2 G2 H2 e2 s2 p2 => k1 σ2 Δ2 G2 H2 (e1.trans e2) s2 p2) k2 (fun σ2 Δ2 G2 H2 e2 s2 p2 => k3 σ2 Δ2 G2 H2 (e1.trans e2) s2 p2)
      (fun σ2 Δ2 G2 H2 e2 s2 p2 => k4 σ2 Δ2 G2 H2 (e1.trans e2) s2 p2) fun C σ2 Δ2 G2 H2 e2 s2 p2 => k5 C σ2 Δ2 G2 H2 (e1.trans e2) s2 p2
theorem xs_ret_own {i : Nat} {ds : List D} (hi : Δ[i]? = some (Sl.own ds)) (k : post (.rt (.lst ds))) : Xs K W (tRet (tVar i)) Δ post :=
  xs_freeze hi (xs1_ret (ev_var (by
    have hl : i < Δ.length := (List.getElem?_eq_some_iff.mp hi).1
    exact List.getElem?_set_self hl)) k)
/-- xs.append(e), xs a list of one's own -/
theorem xs_app {i : Nat} {ds : List D} (hi : Δ[i]? = some (Sl.own ds)) (hl : ds.length < sizeLine) (h : Ev K (WE W) te Δ R X) (hx : ∀ C, X C → post (.ex C Δ)) (k : ∀ d, R d → post (.nx (Δ.set i (.own (ds ++ [d]))))) :
    Xs K W (tDrop (tBM K "list" rAppend (tVar i) (tCons te tNil))) Δ post := fun q G0 H0 G H σ T s k1 k2 k3 k4 k5 => by
  obtain ⟨p, vs, h1, h2, h3, h4, h5, h6⟩ := s.rs.own i ds hi
  refine ⟨_, h1, .inl ⟨rfl, vs, .inl (.inl h2)⟩, ?_⟩
  refine h q G0 H0 G H σ _ s (fun v d G1 H1 g1 r1 p1 => ?_) fun C G1 H1 g x => k5 C σ Δ G1 H1 g.ex (s.go g) (hx C x)
  have s1 := s.go g1
  refine ⟨p, vs, v, rfl, rfl, g1.kl h6 h2, by rw [h3.length]; exact hl, ?_⟩
  exact k1 σ _ G1 _ g1.ex (s1.change hi h1 ((h3.ex g1.ex).append (.cons r1 .nil))) (k d p1)
theorem xs1_app {i : Nat} {ds : List D} {d : D} (hi : Δ[i]? = some (Sl.own ds)) (hl : ds.length < sizeLine) (h : Ev K (WE W) te Δ (· = d) fun _ => False) (k : post (.nx (Δ.set i (.own (ds ++ [d]))))) :
    Xs K W (tDrop (tBM K "list" rAppend (tVar i) (tCons te tNil))) Δ post := xs_app hi hl h (fun _ z => z.elim) fun e z => by rw [z]; exact k
/-- the length, an item of a list of one's own -/
def rLenC (K : PySem.W.Frag) : List V → Hp → VK → Prop := fun xs H Q => ∃ x n, xs = [x] ∧ LenV K x H n ∧ Q (.int n) H
theorem ev_len_own {E : L2.St → XK} {i : Nat} {ds : List D} (hi : Δ[i]? = some (Sl.own ds)) : Ev K E (tCB (rLenC K) (tCons (tVar i) tNil)) Δ (· = .int ds.length) X := fun q G0 H0 G H σ Q s k kx => by
  obtain ⟨p, vs, h1, h2, h3, h4, h5, h6⟩ := s.rs.own i ds hi
  exact ⟨_, h1, _, vs.length, rfl, .inl ⟨vs, .inl (.inl h2), rfl⟩, by rw [h3.length]; exact k _ _ G H s.rf (.int _) rfl⟩
theorem ev_ix_own {E : L2.St → XK} {i : Nat} {ds : List D} {j : Int} {d : D} (hi : Δ[i]? = some (Sl.own ds)) (h : Ev K E te Δ (· = .int j) X) (hd : atI ds j = some d) : Ev K E (tOp (rIx K) (tVar i) te) Δ (· = d) X := fun q G0 H0 G H σ Q s k kx => by
  obtain ⟨p, vs, h1, h2, h3, h4, h5, h6⟩ := s.rs.own i ds hi
  refine ⟨_, h1, ?_⟩
  refine h q G0 H0 G H σ _ s (fun v z G1 H1 g1 r1 p1 => ?_) kx
  subst p1
  cases r1
  have a1 : ∃ v, atI vs j = some v ∧ Rp K G v d := by
    unfold atI at hd ⊢
    rw [h3.length]
    cases e : ixN ds.length j with
    | none => rw [e] at hd; cases hd
    | some l =>
      rw [e] at hd
      exact h3.get hd
  obtain ⟨v, a2, a3⟩ := a1
  exact .inl ⟨p, vs, j, v, rfl, rfl, .inl (.inl (g1.kl h6 h2)), a2, k v d G1 H1 g1 (a3.ex g1.ex) rfl⟩

/-! ### targets -/
/-- the target g takes d; it stores at js -/
def Tg (K : PySem.W.Frag) (g : TG) (js : List Nat) (Δ : En) (d : D) (Δ' : En) : Prop := ∀ (q : Qd) (G0 H0 G H : Hp) (σ : L2.St) (v : V) (Q : L2.St → Hp → Prop), Sta K q G0 H0 G H σ Δ → Rp K G v d →
  (∀ σ', Sta K q G0 H0 G H σ' Δ' → (∀ vs : List Nat, (∀ j ∈ js, j ∈ vs) → wipe σ' vs = wipe σ vs) → Q σ' H) → g v σ H Q
def TgS (K : PySem.W.Frag) (g : TGs) (js : List Nat) (Δ : En) (ds : List D) (Δ' : En) : Prop := ∀ (q : Qd) (G0 H0 G H : Hp) (σ : L2.St) (vs : List V) (Q : L2.St → Hp → Prop), Sta K q G0 H0 G H σ Δ → RpL K G vs ds →
  (∀ σ', Sta K q G0 H0 G H σ' Δ' → (∀ vs : List Nat, (∀ j ∈ js, j ∈ vs) → wipe σ' vs = wipe σ vs) → Q σ' H) → g vs σ H Q
theorem wipe_set_in {σ : L2.St} {j : Nat} {x : Option V} : ∀ {vs : List Nat}, j ∈ vs → wipe (σ.set j x) vs = wipe σ vs
  | v :: vs, h => by
    unfold wipe
    by_cases c : j ∈ vs
    · rw [wipe_set_in c]
    · have e : j = v := by
        rcases List.mem_cons.mp h with e | e
        · exact e
        · exact absurd e c
      subst e
      have : wipe (σ.set j x) vs = (wipe σ vs).set j x := by
        clear h
        induction vs with
        | nil => rfl
        | cons w ws ih =>
          have n1 : j ≠ w := fun z => c (by rw [z]; exact List.mem_cons_self)
          have n2 : j ∉ ws := fun z => c (List.mem_cons_of_mem _ z)
          unfold wipe
          rw [ih n2, List.set_comm _ _ n1]
      rw [this, List.set_set]
theorem tg_name {i : Nat} {d : D} : Tg K (gName i) [i] Δ d (Δ.set i (.dat d)) := fun q G0 H0 G H σ v Q s r k => k _ (s.set r) fun vs h => wipe_set_in (h i List.mem_cons_self)
theorem tgs_nil : TgS K gNil [] Δ [] Δ := fun q G0 H0 G H σ vs Q s r k => by
  cases r
  exact ⟨rfl, k _ s fun _ _ => rfl⟩
theorem tgs_cons {g : TG} {gs : TGs} {js js' : List Nat} {d : D} {ds : List D} {Δ1 Δ2 : En} (h : Tg K g js Δ d Δ1) (hs : TgS K gs js' Δ1 ds Δ2) : TgS K (gCons g gs) (js ++ js') Δ (d :: ds) Δ2 := fun q G0 H0 G H σ vs Q s r k => by
  cases r with
  | cons r1 r2 =>
    exact ⟨_, _, rfl, h q G0 H0 G H σ _ _ s r1 fun σ1 s1 w1 => hs q G0 H0 G H σ1 _ Q s1 r2 fun σ2 s2 w2 => k σ2 s2 fun vs hv => (w2 vs fun j hj => hv j (List.mem_append_right _ hj)).trans (w1 vs fun j hj => hv j (List.mem_append_left _ hj))⟩
theorem tg_tup {gs : TGs} {js : List Nat} {n : Nat} {ds : List D} {Δ1 : En} (h : TgS K gs js Δ ds Δ1) (hn : ds.length = n) : Tg K (gTup K n gs) js Δ (.tup ds) Δ1 := fun q G0 H0 G H σ v Q s r k => by
  obtain ⟨a, xs, rfl, h1, h2⟩ := r.tup_inv
  exact ⟨a, xs, rfl, st_ex s.sub h1, by rw [h2.length]; exact hn, h q G0 H0 G H σ xs Q s h2 k⟩
theorem tg2 {i j : Nat} {a b : D} : Tg K (gTup K 2 (gCons (gName i) (gCons (gName j) gNil))) [i, j] Δ (.tup [a, b]) ((Δ.set i (.dat a)).set j (.dat b)) := tg_tup (tgs_cons tg_name (tgs_cons tg_name tgs_nil)) rfl
theorem tg3 {i j l : Nat} {a b c : D} : Tg K (gTup K 3 (gCons (gName i) (gCons (gName j) (gCons (gName l) gNil)))) [i, j, l] Δ (.tup [a, b, c]) (((Δ.set i (.dat a)).set j (.dat b)).set l (.dat c)) := tg_tup (tgs_cons tg_name (tgs_cons tg_name (tgs_cons tg_name tgs_nil))) rfl
theorem xs_asgT {g : TG} {js : List Nat} (h : Ev K (WE W) te Δ R X) (hx : ∀ C, X C → post (.ex C Δ)) (k : ∀ d, R d → ∃ Δ', Tg K g js Δ d Δ' ∧ post (.nx Δ')) : Xs K W (tAsg te g) Δ post := fun q G0 H0 G H σ T s k1 k2 k3 k4 k5 =>
  h q G0 H0 G H σ _ s (fun v d G1 H1 g1 r1 p1 => by
    obtain ⟨Δ', ht, hp⟩ := k d p1
    exact ht q G0 H0 G1 H1 σ v _ (s.go g1) r1 fun σ' s' _ => k1 σ' Δ' G1 H1 g1.ex s' hp) fun C G1 H1 g x => k5 C σ Δ G1 H1 g.ex (s.go g) (hx C x)
theorem xs1_asgT {g : TG} {js : List Nat} {d : D} {Δ' : En} (h : Ev K (WE W) te Δ (· = d) fun _ => False) (ht : Tg K g js Δ d Δ') (k : post (.nx Δ')) : Xs K W (tAsg te g) Δ post := xs_asgT h (fun _ z => z.elim) fun e z => ⟨Δ', by rw [z]; exact ht, k⟩
/-- a, b = x, y -/
theorem xs_par {i j : Nat} {tr : TA} {Rs : List D → Prop} (h : Ea K (WE W) tr Δ Rs X) (hx : ∀ C, X C → post (.ex C Δ)) (k : ∀ ds, Rs ds → ∃ a b, ds = [a, b] ∧ post (.nx ((Δ.set i (.dat a)).set j (.dat b)))) : Xs K W (tPar i j tr) Δ post := fun q G0 H0 G H σ T s k1 k2 k3 k4 k5 =>
  h q G0 H0 G H σ _ s (fun vs ds G1 H1 g1 r1 p1 => by
    obtain ⟨a, b, rfl, hp⟩ := k ds p1
    cases r1 with
    | cons ra rr =>
      cases rr with
      | cons rb rr =>
        cases rr
        exact ⟨_, _, rfl, k1 _ _ G1 H1 g1.ex (((s.go g1).set ra).set rb) hp⟩) fun C G1 H1 g x => k5 C σ Δ G1 H1 g.ex (s.go g) (hx C x)
theorem xs1_par {i j : Nat} {tr : TA} {a b : D} (h : Ea K (WE W) tr Δ (· = [a, b]) fun _ => False) (k : post (.nx ((Δ.set i (.dat a)).set j (.dat b)))) : Xs K W (tPar i j tr) Δ post := xs_par h (fun _ z => z.elim) fun ds z => ⟨a, b, z, k⟩
theorem xs_par3 {i j l : Nat} {tr : TA} {Rs : List D → Prop} (h : Ea K (WE W) tr Δ Rs X) (hx : ∀ C, X C → post (.ex C Δ)) (k : ∀ ds, Rs ds → ∃ a b c, ds = [a, b, c] ∧ post (.nx (((Δ.set i (.dat a)).set j (.dat b)).set l (.dat c)))) : Xs K W (tPar3 i j l tr) Δ post := fun q G0 H0 G H σ T s k1 k2 k3 k4 k5 =>
  h q G0 H0 G H σ _ s (fun vs ds G1 H1 g1 r1 p1 => by
    obtain ⟨a, b, c, rfl, hp⟩ := k ds p1
    cases r1 with
    | cons ra rr =>
      cases rr with
      | cons rb rr =>
        cases rr with
        | cons rc rr =>
          cases rr
          exact ⟨_, _, _, rfl, k1 _ _ G1 H1 g1.ex ((((s.go g1).set ra).set rb).set rc) hp⟩) fun C G1 H1 g x => k5 C σ Δ G1 H1 g.ex (s.go g) (hx C x)
theorem xs1_par3 {i j l : Nat} {tr : TA} {a b c : D} (h : Ea K (WE W) tr Δ (· = [a, b, c]) fun _ => False) (k : post (.nx (((Δ.set i (.dat a)).set j (.dat b)).set l (.dat c)))) : Xs K W (tPar3 i j l tr) Δ post := xs_par3 h (fun _ z => z.elim) fun ds z => ⟨a, b, c, z, k⟩
/-- a, b = [], y, the list one's own -/
theorem xs_par0 {i j : Nat} (hij : i ≠ j) (h : Ev K (WE W) te Δ R X) (hx : ∀ C, X C → post (.ex C Δ)) (k : ∀ d, R d → post (.nx ((Δ.set j (.dat d)).set i (.own [])))) : Xs K W (tPar i j (tCons (tLst tNil) (tCons te tNil))) Δ post := fun q G0 H0 G H σ T s k1 k2 k3 k4 k5 => by
  refine ⟨Nat.zero_le _, fun p hp => ?_⟩
  have g0 : Gr none G H G (upd H p (.lst [])) :=
    ⟨Exx.refl G, fun _ _ e => .inl e, fun a o e nt => by rw [upd_ne (ne_of_none (s.sub a o e nt) hp)]; exact s.sub a o e nt, fun a o _ e _ => by rw [upd_ne (ne_of_none e hp)]; exact e, fun _ => Tbd.new hp, fun _ _ z => nomatch z⟩
  have s0 := s.go g0.any
  have hGp : Nt G p := fun o c => Classical.byContradiction fun n => by
    rw [s.sub p o c (fun ps z => n ⟨ps, z⟩)] at hp; cases hp
  have hH0 : Nt H0 p := s.gr.live s.hq (.of hp)
  have hqp : ∀ T, q ≠ some (p, T) := fun T c => by
    obtain ⟨x, y, z, e⟩ := (s.dq p T c).1
    rw [hp] at e; cases e
  refine h q G0 H0 G _ σ _ s0 (fun v d G1 H1 g1 r1 p1 => ?_) fun C G1 H1 g x => k5 C σ Δ G1 H1 g.ex (s0.go g) (hx C x)
  have s1 := s0.go g1
  have hp1 : H1 p = some (.lst []) := g1.kl hqp upd_same
  have hG1 : Nt G1 p := g1.un hGp upd_same
  have other : ∀ (l : Nat) (as : List D), Δ[l]? = some (Sl.own as) → σ[l]? ≠ some (some (V.ref p)) := fun l as e z => by
    obtain ⟨p3, vs3, a1, a2, _⟩ := s.rs.own l as e
    rw [a1] at z
    cases z
    rw [hp] at a2; cases a2
  have s2 := s1.set (i := j) r1
  have e1 : (σ.set i (some (V.ref p))).set j (some v) = (σ.set j (some v)).set i (some (V.ref p)) := List.set_comm _ _ hij
  refine ⟨_, _, rfl, ?_⟩
  rw [e1]
  refine k1 _ _ G1 H1 g1.ex ?_ (k d p1)
  -- the slot i holds p, which is none of the other lists
  have old : ∀ {l : Nat} {e : Sl}, ((Δ.set j (.dat d)).set i (Sl.own []))[l]? = some e → (l = i ∧ e = Sl.own [] ∧ i < Δ.length) ∨ (l ≠ i ∧ (Δ.set j (.dat d))[l]? = some e ∧ ((σ.set j (some v)).set i (some (V.ref p)))[l]? = (σ.set j (some v))[l]?) := fun {l e} he => by
    by_cases c : i = l
    · subst c
      have hl : i < Δ.length := by
        have := (List.getElem?_eq_some_iff.mp he).1
        simpa using this
      rw [List.getElem?_set_self (by simpa using hl)] at he
      cases he
      exact .inl ⟨rfl, rfl, hl⟩
    · rw [List.getElem?_set_ne c] at he
      exact .inr ⟨fun z => c z.symm, he, List.getElem?_set_ne c⟩
  have back : ∀ {l : Nat} {as : List D}, (Δ.set j (Sl.dat d))[l]? = some (Sl.own as) → Δ[l]? = some (Sl.own as) ∧ (σ.set j (some v))[l]? = σ[l]? := fun {l as} e => by
    by_cases c : j = l
    · subst c
      have hl : j < Δ.length := by
        have := (List.getElem?_eq_some_iff.mp e).1
        simpa using this
      rw [List.getElem?_set_self hl] at e
      cases e
    · rw [List.getElem?_set_ne c] at e
      exact ⟨e, List.getElem?_set_ne c⟩
  refine ⟨s2.gr, s2.hq, s2.rs.sub, by simpa using s.rs.len, s2.rs.gq, fun l e he => ?_, fun l bs he => ?_, fun l m bs cs p2 a1 a2 a3 a4 => ?_, fun l T he => ?_⟩
  · rcases old he with ⟨_, c, _⟩ | ⟨_, c, c2⟩
    · cases c
    · rw [c2]; exact s2.rs.dat l e c
  · rcases old he with ⟨c1, c, hl⟩ | ⟨_, c, c2⟩
    · cases c
      subst c1
      exact ⟨p, [], List.getElem?_set_self (by rw [List.length_set, s.rs.len]; exact hl), hp1, .nil, hG1, hH0, hqp⟩
    · rw [c2]; exact s2.rs.own l bs c
  · rcases old a1 with ⟨c1, _, hl⟩ | ⟨n1, c1, e1⟩
    · rcases old a2 with ⟨c2, _, _⟩ | ⟨n2, c2, e2⟩
      · rw [c1, c2]
      · subst c1
        rw [List.getElem?_set_self (by rw [List.length_set, s.rs.len]; exact hl)] at a3
        cases a3
        obtain ⟨b1, b2⟩ := back c2
        rw [e2, b2] at a4
        exact absurd a4 (other _ _ b1)
    · rcases old a2 with ⟨c2, _, hl⟩ | ⟨n2, c2, e2⟩
      · subst c2
        rw [List.getElem?_set_self (by rw [List.length_set, s.rs.len]; exact hl)] at a4
        cases a4
        obtain ⟨b1, b2⟩ := back c1
        rw [e1, b2] at a3
        exact absurd a3 (other _ _ b1)
      · rw [e1] at a3
        rw [e2] at a4
        exact s2.rs.dif l m bs cs p2 c1 c2 a3 a4
  · rcases old he with ⟨_, c, _⟩ | ⟨_, c, c2⟩
    · cases c
    · rw [c2]; exact s2.rs.dice l T c
/-- x op= e -/
theorem xs_aug {i : Nat} {ip : TIp} {x : D} (hi : Δ[i]? = some (Sl.dat x)) (h : Ev K (WE W) te Δ R X) (hx : ∀ C, X C → post (.ex C Δ)) (hr : ∀ y, R y → ∃ z, OpD K ip x y (· = z) ∧ post (.nx (Δ.set i (.dat z)))) : Xs K W (tAug i te ip) Δ post := fun q G0 H0 G H σ T s k1 k2 k3 k4 k5 => by
  obtain ⟨v, h1, h2⟩ := s.rs.dat i x hi
  refine ⟨v, h1, ?_⟩
  refine h q G0 H0 G H σ _ s (fun w y G1 H1 g1 r1 p1 => ?_) fun C G1 H1 g x => k5 C σ Δ G1 H1 g.ex (s.go g) (hx C x)
  obtain ⟨z, ho, hp⟩ := hr y p1
  refine ho G1 H1 v w _ g1.sub (h2.ex g1.ex) r1 fun u d G2 H2 g2 rd e => ?_
  subst e
  exact k1 _ _ G2 H2 (g1.ex.trans g2.ex) (((s.go g1).go g2.any).set rd) hp
theorem xs1_aug {i : Nat} {ip : TIp} {x y z : D} (hi : Δ[i]? = some (Sl.dat x)) (h : Ev K (WE W) te Δ (· = y) fun _ => False) (hr : OpD K ip x y (· = z)) (k : post (.nx (Δ.set i (.dat z)))) : Xs K W (tAug i te ip) Δ post :=
  xs_aug hi h (fun _ z => z.elim) fun e w => by rw [w]; exact ⟨z, hr, k⟩
/-- raise C(..) -/
theorem xs_raise {C : Addr} (k : post (.ex C Δ)) : Xs K W (fun _ σ H => W (.ref C) none σ H) Δ post := fun q G0 H0 G H σ T s k1 k2 k3 k4 k5 => k5 C σ Δ G H (Exx.refl _) s k
/-- while -/
theorem xs_while (I : Nat → En → Prop) (m0 : Nat) (h0 : I m0 Δ) (hs : ∀ m Δ', I m Δ' → ∃ (Rt : Bool → Prop) (X : Addr → Prop), Et K (WE W) tt Δ' Rt X ∧ (∀ C, X C → post (.ex C Δ')) ∧
      (Rt true → Xs K W t Δ' fun o => match o with
        | .nx Δ2 => ∃ m', m' < m ∧ I m' Δ2
        | .ct Δ2 => ∃ m', m' < m ∧ I m' Δ2
        | .bk Δ2 => post (.nx Δ2)
        | o => post o) ∧ (Rt false → post (.nx Δ'))) : Xs K W (tWhile tt t) Δ post := fun q G0 H0 G H σ T s k1 k2 k3 k4 k5 => by
  refine ⟨fun m σ' H' => ∃ Δ' G', Exx G G' ∧ Sta K q G0 H0 G' H' σ' Δ' ∧ I m Δ', ⟨m0, Δ, G, Exx.refl _, s, h0⟩, ?_⟩
  rintro m σ1 H1 ⟨Δ1, G1, e1, s1, i1⟩
  obtain ⟨Rt, X, ht, hx, hb, hn⟩ := hs m Δ1 i1
  refine ht q G0 H0 G1 H1 σ1 _ s1 (fun b G2 H2 g2 p2 => ?_) fun C G2 H2 g x => k5 C σ1 Δ1 G2 H2 (e1.trans g.ex) (s1.go g) (hx C x)
  have s2 := s1.go g2
  have e2 := e1.trans g2.ex
  cases b with
  | false => exact iteF (k1 σ1 Δ1 G2 H2 e2 s2 (hn p2))
  | true =>
    refine iteT ⟨fun σ' H' => ∃ m', m' < m ∧ ∃ Δ' G', Exx G G' ∧ Sta K q G0 H0 G' H' σ' Δ' ∧ I m' Δ', fun σ' H' h => h, ?_⟩
    refine hb p2 q G0 H0 G2 H2 σ1 _ s2 (fun σ3 Δ3 G3 H3 e3 s3 p3 => ?_) (fun v d G3 H3 g3 r3 p3 => k2 v d G3 H3 g3 r3 p3) (fun σ3 Δ3 G3 H3 e3 s3 p3 => k1 σ3 Δ3 G3 H3 (e2.trans e3) s3 p3) (fun σ3 Δ3 G3 H3 e3 s3 p3 => ?_) fun C σ3 Δ3 G3 H3 e3 s3 p3 => k5 C σ3 Δ3 G3 H3 (e2.trans e3) s3 p3
    · obtain ⟨m', l, i3⟩ := p3
      exact ⟨m', l, Δ3, G3, e2.trans e3, s3, i3⟩
    · obtain ⟨m', l, i3⟩ := p3
      exact ⟨m', l, Δ3, G3, e2.trans e3, s3, i3⟩

/-! ### walks: what a loop or a comprehension goes through, as data -/
def Wk (K : PySem.W.Frag) (J : It) (G : Hp) (items : List D) : Prop := ∀ (G1 H1 : Hp), Exx G G1 → Exx G1 H1 →
  (∀ i, i < items.length → J.go i H1 ∧ ∀ x H2, J.yld i H1 x H2 → ∃ G2 d, Gr none G1 H1 G2 H2 ∧ items[i]? = some d ∧ Rp K G2 x d) ∧ J.stop items.length H1
def Ew (K : PySem.W.Frag) (E : L2.St → XK) (wi : TI) (Δ : En) (R : List D → Prop) (X : Addr → Prop) : Prop :=
  ∀ (q : Qd) (G0 H0 G H : Hp) (σ : L2.St) (Rj : It → Hp → Prop), Sta K q G0 H0 G H σ Δ →
    (∀ (J : It) (items : List D) (G' H' : Hp), Gr q G H G' H' → Wk K J G' items → R items → Rj J H') →
    (∀ (C : Addr) (G' H' : Hp), Gr q G H G' H' → X C → E σ (.ref C) none H') → wi σ H Rj
theorem xs_for {wi : TI} {g : TG} {Rw : List D → Prop} (hw : Ew K (WE W) wi Δ Rw X) (hx : ∀ C, X C → post (.ex C Δ)) (I : List D → Nat → En → Prop) (h0 : ∀ items, Rw items → I items 0 Δ)
    (hs : ∀ items i d Δ', Rw items → items[i]? = some d → I items i Δ' → ∃ js Δ2, Tg K g js Δ' d Δ2 ∧ Xs K W t Δ2 fun o => match o with
      | .nx Δ3 => I items (i + 1) Δ3
      | .ct Δ3 => I items (i + 1) Δ3
      | .bk Δ3 => post (.nx Δ3)
      | o => post o) (hd : ∀ items Δ', Rw items → I items items.length Δ' → post (.nx Δ')) : Xs K W (tFor wi g t) Δ post := fun q G0 H0 G H σ T s k1 k2 k3 k4 k5 => by
  refine hw q G0 H0 G H σ _ s (fun J items Gw Hw gw wk rw_ => ?_) fun C G1 H1 g x => k5 C σ Δ G1 H1 g.ex (s.go g) (hx C x)
  refine ⟨fun i m σ' H' => m = items.length - i ∧ i ≤ items.length ∧ ∃ Δ' G', Exx Gw G' ∧ Sta K q G0 H0 G' H' σ' Δ' ∧ I items i Δ', ⟨items.length, rfl, Nat.zero_le _, Δ, Gw, Exx.refl _, s.go gw, h0 items rw_⟩, ?_⟩
  rintro i m σ1 H1 ⟨rfl, hi, Δ1, G1, e1, s1, i1⟩
  obtain ⟨wg, ws⟩ := wk G1 H1 e1 s1.sub
  by_cases hlt : i < items.length
  · obtain ⟨go, yl⟩ := wg i hlt
    refine .inr ⟨go, fun σ' H' => ∃ Δ' G', Exx Gw G' ∧ Sta K q G0 H0 G' H' σ' Δ' ∧ I items (i + 1) Δ', fun σ' H' ⟨Δ', G', a, b, c⟩ => ⟨items.length - (i + 1), by omega, rfl, hlt, Δ', G', a, b, c⟩, fun x H2 y => ?_⟩
    obtain ⟨G2, d, g2, hd', rx⟩ := yl x H2 y
    have s2 := s1.go g2.any
    obtain ⟨js, Δ2, ht, hb⟩ := hs items i d Δ1 rw_ hd' i1
    refine ht q G0 H0 G2 H2 σ1 x _ s2 rx fun σ3 s3 _ => ?_
    have e2 := e1.trans g2.ex
    exact hb q G0 H0 G2 H2 σ3 _ s3 (fun σ4 Δ4 G4 H4 e4 s4 p4 => ⟨Δ4, G4, e2.trans e4, s4, p4⟩) k2 (fun σ4 Δ4 G4 H4 e4 s4 p4 => k1 σ4 Δ4 G4 H4 (gw.ex.trans (e2.trans e4)) s4 p4) (fun σ4 Δ4 G4 H4 e4 s4 p4 => ⟨Δ4, G4, e2.trans e4, s4, p4⟩)
      fun C σ4 Δ4 G4 H4 e4 s4 p4 => k5 C σ4 Δ4 G4 H4 (gw.ex.trans (e2.trans e4)) s4 p4
  · have e : i = items.length := by omega
    subst e
    exact .inl ⟨ws, k1 σ1 Δ1 G1 H1 (gw.ex.trans e1) s1 (hd items Δ1 rw_ i1)⟩
/-- items that are known -/
theorem xs1_for {wi : TI} {g : TG} {items : List D} (hw : Ew K (WE W) wi Δ (· = items) fun _ => False) (I : Nat → En → Prop) (h0 : I 0 Δ)
    (hs : ∀ i d Δ', items[i]? = some d → I i Δ' → ∃ js Δ2, Tg K g js Δ' d Δ2 ∧ Xs K W t Δ2 fun o => match o with
      | .nx Δ3 => I (i + 1) Δ3
      | .ct Δ3 => I (i + 1) Δ3
      | .bk Δ3 => post (.nx Δ3)
      | o => post o) (hd : ∀ Δ', I items.length Δ' → post (.nx Δ')) : Xs K W (tFor wi g t) Δ post :=
  xs_for hw (fun _ z => z.elim) (fun _ i Δ' => I i Δ') (fun _ _ => h0) (fun it i d Δ' e hi' i1 => hs i d Δ' (by rw [← e]; exact hi') i1) fun it Δ' e i1 => hd Δ' (by rw [← e]; exact i1)
end
end Ts


namespace Ts
open PySem PySem.Spec PyProof.Rows L2

section
variable {K : PySem.W.Frag} {E : L2.St → XK} {W : WX} {Δ : En} {te ta tb : TE} {tt : TT} {R : D → Prop} {X : Addr → Prop} {wi wj : TI} {Rw : List D → Prop}
theorem ew_inl (h : Ew K E wi Δ Rw X) : Ew K E (fun σ H Rj => wi σ H Rj ∨ wj σ H Rj) Δ Rw X := fun q G0 H0 G H σ Rj s k kx => .inl (h q G0 H0 G H σ Rj s k kx)
theorem ew_inr (h : Ew K E wj Δ Rw X) : Ew K E (fun σ H Rj => wi σ H Rj ∨ wj σ H Rj) Δ Rw X := fun q G0 H0 G H σ Rj s k kx => .inr (h q G0 H0 G H σ Rj s k kx)
theorem ew_list (h : Ev K E te Δ (fun d => ∃ ds, d = .lst ds ∧ Rw ds) X) : Ew K E (iList K te) Δ Rw X := fun q G0 H0 G H σ Rj s k kx =>
  h q G0 H0 G H σ _ s (fun v d G1 H1 g1 r1 p1 => by
    obtain ⟨ds, rfl, hp⟩ := p1
    obtain ⟨a, xs, rfl, ha, hr⟩ := r1.lst_inv
    refine ⟨a, rfl, ⟨xs, .inl (.inl (g1.sub.l ha))⟩, k (Itl K a) ds G1 H1 g1 (fun G2 H2 e2 e3 => ?_) hp⟩
    have hq : SqL K H2 a xs := .inl (.inl (e3.l (e2.l ha)))
    have hl := hr.length
    refine ⟨fun i hi => ⟨⟨xs, xs[i]'(by omega), hq, by simp [show i < xs.length by omega]⟩, fun x H3 y => ?_⟩, ⟨xs, hq, by omega⟩⟩
    obtain ⟨e, y⟩ := y
    subst e
    obtain ⟨d, hd, rd⟩ := hr.getV (y xs hq)
    exact ⟨G2, d, Gr.refl e3, hd, rd.ex e2⟩) kx
theorem ew_tup (h : Ev K E te Δ (fun d => ∃ ds, d = .tup ds ∧ Rw ds) X) : Ew K E (iTup K te) Δ Rw X := fun q G0 H0 G H σ Rj s k kx =>
  h q G0 H0 G H σ _ s (fun v d G1 H1 g1 r1 p1 => by
    obtain ⟨ds, rfl, hp⟩ := p1
    obtain ⟨a, xs, rfl, ha, hr⟩ := r1.tup_inv
    refine ⟨a, rfl, ⟨xs, st_ex g1.sub ha⟩, k (Itt K a) ds G1 H1 g1 (fun G2 H2 e2 e3 => ?_) hp⟩
    have hq : SqT K H2 a xs := st_ex e3 (st_ex e2 ha)
    have hl := hr.length
    refine ⟨fun i hi => ⟨⟨xs, xs[i]'(by omega), hq, by simp [show i < xs.length by omega]⟩, fun x H3 y => ?_⟩, ⟨xs, hq, by omega⟩⟩
    obtain ⟨e, y⟩ := y
    subst e
    obtain ⟨d, hd, rd⟩ := hr.getV (y xs hq)
    exact ⟨G2, d, Gr.refl e3, hd, rd.ex e2⟩) kx
/-- a text's signs -/
def signs (z : Str) : List D := z.cps.toList.map fun c => .str ⟨#[c]⟩
theorem ew_str (h : Ev K E te Δ (fun d => ∃ z, d = .str z ∧ Rw (signs z)) X) : Ew K E (iStr te) Δ Rw X := fun q G0 H0 G H σ Rj s k kx =>
  h q G0 H0 G H σ _ s (fun v d G1 H1 g1 r1 p1 => by
    obtain ⟨z, rfl, hp⟩ := p1
    cases r1
    refine ⟨z, rfl, k (Its z) (signs z) G1 H1 g1 (fun G2 H2 e2 e3 => ?_) hp⟩
    have hl : (signs z).length = z.cps.size := by simp [signs]
    refine ⟨fun i hi => ⟨by rw [hl] at hi; exact hi, fun x H3 y => ?_⟩, by rw [hl]; exact Nat.le_refl _⟩
    obtain ⟨e, c, hc, ex⟩ := y
    subst e
    subst ex
    exact ⟨G2, .str ⟨#[c]⟩, Gr.refl e3, by simp [signs, hc], .str _⟩) kx
/-- lo, lo + c, .. -/
def rngD (lo c : Int) (n : Nat) : List D := (List.range n).map fun i => .int (lo + (i : Nat) * c)
theorem rngD_get {lo c : Int} {n i : Nat} (h : i < n) : (rngD lo c n)[i]? = some (.int (lo + (i : Nat) * c)) := by simp [rngD, h]
theorem rngD_len {lo c : Int} {n : Nat} : (rngD lo c n).length = n := by simp [rngD]
theorem rngD_of {lo c : Int} {n i : Nat} {d : D} (h : (rngD lo c n)[i]? = some d) : i < n ∧ d = .int (lo + (i : Nat) * c) := by
  have h1 : i < n := by
    have := (List.getElem?_eq_some_iff.mp h).1
    rwa [rngD_len] at this
  rw [rngD_get h1] at h
  exact ⟨h1, (Option.some.inj h).symm⟩
theorem wk_range {lo : Int} {n : Nat} {G : Hp} : Wk K (Itr lo n) G (rngD lo 1 n) := fun G2 H2 e2 e3 => by
  refine ⟨fun i hi => ⟨by rw [rngD_len] at hi; exact hi, fun x H3 y => ?_⟩, by rw [rngD_len]; exact Nat.le_refl _⟩
  obtain ⟨e, ex⟩ := y
  subst e
  subst ex
  rw [rngD_len] at hi
  exact ⟨G2, _, Gr.refl e3, rngD_get hi, by rw [Int.mul_one]; exact .int _⟩
theorem wk_rangeC {lo c : Int} {n : Nat} {G : Hp} : Wk K (Itc lo c n) G (rngD lo c n) := fun G2 H2 e2 e3 => by
  refine ⟨fun i hi => ⟨by rw [rngD_len] at hi; exact hi, fun x H3 y => ?_⟩, by rw [rngD_len]; exact Nat.le_refl _⟩
  obtain ⟨e, ex⟩ := y
  subst e
  subst ex
  rw [rngD_len] at hi
  exact ⟨G2, _, Gr.refl e3, rngD_get hi, .int _⟩
theorem ew_rng1 (h : Ev K E te Δ (fun d => ∃ j : Int, d = .int j ∧ -(2 ^ 62) ≤ j ∧ j < 2 ^ 62 ∧ Rw (rngD 0 1 j.toNat)) X) : Ew K E (iRng1 (tCons te tNil)) Δ Rw X := fun q G0 H0 G H σ Rj s k kx =>
  h q G0 H0 G H σ _ s (fun v d G1 H1 g1 r1 p1 => by
    obtain ⟨j, rfl, h1, h2, hp⟩ := p1
    cases r1
    exact ⟨j, rfl, h1, h2, k _ _ G1 H1 g1 wk_range hp⟩) kx
theorem ew_rng2 (h : Ev K E ta Δ R X) (h' : ∀ a, R a → Ev K E tb Δ (fun d => ∃ i j : Int, a = .int i ∧ d = .int j ∧ (-(2 ^ 62) ≤ i ∧ i < 2 ^ 62 ∧ -(2 ^ 62) ≤ j ∧ j < 2 ^ 62) ∧ Rw (rngD i 1 (j - i).toNat)) X) : Ew K E (iRng2 (tCons ta (tCons tb tNil))) Δ Rw X := fun q G0 H0 G H σ Rj s k kx =>
  h q G0 H0 G H σ _ s (fun v a G1 H1 g1 r1 p1 => h' a p1 q G0 H0 G1 H1 σ _ (s.go g1) (fun u d G2 H2 g2 r2 p2 => by
    obtain ⟨i, j, rfl, rfl, hb, hp⟩ := p2
    cases r1
    cases r2
    exact ⟨i, j, rfl, hb, k _ _ G2 H2 (s.tr g1 g2) wk_range hp⟩) fun C G' H' g x => kx C G' H' (s.tr g1 g) x) kx
theorem ew_rng3 {a b c : Int} {n : Nat} (h1 : Ev K E ta Δ (· = .int a) X) (h2 : Ev K E tb Δ (· = .int b) X) (h3 : Ev K E te Δ (· = .int c) X) (hr : RgC a b c n) : Ew K E (iRng3 (tCons ta (tCons tb (tCons te tNil)))) Δ (· = rngD a c n) X := fun q G0 H0 G H σ Rj s k kx =>
  h1 q G0 H0 G H σ _ s (fun v d1 G1 H1 g1 r1 p1 => h2 q G0 H0 G1 H1 σ _ (s.go g1) (fun u d2 G2 H2 g2 r2 p2 => h3 q G0 H0 G2 H2 σ _ (s.go (s.tr g1 g2)) (fun x d3 G3 H3 g3 r3 p3 => by
    subst p1; subst p2; subst p3
    cases r1; cases r2; cases r3
    exact ⟨a, b, c, n, rfl, hr, k _ _ G3 H3 (s.tr (s.tr g1 g2) g3) wk_rangeC rfl⟩) fun C G' H' g x => kx C G' H' (s.tr (s.tr g1 g2) g) x) fun C G' H' g x => kx C G' H' (s.tr g1 g) x) kx
/-- (0, a), (1, b), .. -/
def enumD (ds : List D) : List D := ds.mapIdx fun i d => .tup [.int (i : Nat), d]
theorem enumD_get {ds : List D} {i : Nat} {d : D} (h : ds[i]? = some d) : (enumD ds)[i]? = some (.tup [.int (i : Nat), d]) := by simp [enumD, h]
theorem enumD_len {ds : List D} : (enumD ds).length = ds.length := by simp [enumD]
theorem enumD_of {ds : List D} {i : Nat} {e : D} (h : (enumD ds)[i]? = some e) : ∃ d, ds[i]? = some d ∧ e = .tup [.int (i : Nat), d] := by
  have h1 : i < ds.length := by
    have := (List.getElem?_eq_some_iff.mp h).1
    rwa [enumD_len] at this
  refine ⟨ds[i], List.getElem?_eq_getElem h1, ?_⟩
  rw [enumD_get (List.getElem?_eq_getElem h1)] at h
  exact (Option.some.inj h).symm
theorem ew_enum (h : Ev K E te Δ (fun d => ∃ ds, d = .lst ds ∧ Rw (enumD ds)) X) : Ew K E (iEnum K (tCons te tNil)) Δ Rw X := fun q G0 H0 G H σ Rj s k kx =>
  h q G0 H0 G H σ _ s (fun v d G1 H1 g1 r1 p1 => by
    obtain ⟨ds, rfl, hp⟩ := p1
    obtain ⟨a, xs, rfl, ha, hr⟩ := r1.lst_inv
    refine ⟨a, xs, rfl, .inl (.inl (g1.sub.l ha)), k (Ite K a) (enumD ds) G1 H1 g1 (fun G2 H2 e2 e3 => ?_) hp⟩
    have hq : SqL K H2 a xs := .inl (.inl (e3.l (e2.l ha)))
    have hl := hr.length
    rw [enumD_len]
    refine ⟨fun i hi => ⟨⟨xs, xs[i]'(by omega), hq, by simp [show i < xs.length by omega]⟩, fun x H3 y => ?_⟩, ⟨xs, hq, by omega⟩⟩
    obtain ⟨T, z, rfl, hT, rfl, y⟩ := y
    obtain ⟨d, hd, rd⟩ := hr.getV (y xs hq)
    have g := Gr.new (o := .tup [.int (i : Nat), z]) e3 hT
    exact ⟨_, _, g, enumD_get hd, .tup (.inl (.inl upd_same)) (.cons (.int _) (.cons (rd.ex (e2.trans g.ex)) .nil))⟩) kx
/-- pairs -/
def zipD (as bs : List D) : List D := List.zipWith (fun a b => .tup [a, b]) as bs
theorem zipD_get {as bs : List D} {i : Nat} {a b : D} (h1 : as[i]? = some a) (h2 : bs[i]? = some b) : (zipD as bs)[i]? = some (.tup [a, b]) := by simp [zipD, List.getElem?_zipWith, h1, h2]
theorem zipD_len {as bs : List D} : (zipD as bs).length = min as.length bs.length := by simp [zipD]
theorem zipD_of {as bs : List D} {i : Nat} {e : D} (h : (zipD as bs)[i]? = some e) : ∃ a b, as[i]? = some a ∧ bs[i]? = some b ∧ e = .tup [a, b] := by
  have h1 : i < min as.length bs.length := by
    have := (List.getElem?_eq_some_iff.mp h).1
    rwa [zipD_len] at this
  have ha : as[i]? = some as[i] := List.getElem?_eq_getElem (by omega)
  have hb : bs[i]? = some bs[i] := List.getElem?_eq_getElem (by omega)
  refine ⟨_, _, ha, hb, ?_⟩
  rw [zipD_get ha hb] at h
  exact (Option.some.inj h).symm
theorem ew_zip (h : Ev K E ta Δ R X) (h' : ∀ d, R d → Ev K E tb Δ (fun e => ∃ as bs, d = .lst as ∧ e = .lst bs ∧ Rw (zipD as bs)) X) : Ew K E (iZip K (tCons ta (tCons tb tNil))) Δ Rw X := fun q G0 H0 G H σ Rj s k kx =>
  h q G0 H0 G H σ _ s (fun v d G1 H1 g1 r1 p1 => h' d p1 q G0 H0 G1 H1 σ _ (s.go g1) (fun u e G2 H2 g2 r2 p2 => by
    obtain ⟨as, bs, rfl, rfl, hp⟩ := p2
    obtain ⟨a, xs, rfl, ha, hr⟩ := (r1.ex g2.ex).lst_inv
    obtain ⟨b, ys, rfl, hb, hr2⟩ := r2.lst_inv
    refine ⟨a, b, xs, ys, rfl, .inl (.inl (g2.sub.l ha)), .inl (.inl (g2.sub.l hb)), k (Itz K a b) (zipD as bs) G2 H2 (s.tr g1 g2) (fun G3 H3 e2 e3 => ?_) hp⟩
    have hq : SqL K H3 a xs := .inl (.inl (e3.l (e2.l ha)))
    have hq2 : SqL K H3 b ys := .inl (.inl (e3.l (e2.l hb)))
    have hl := hr.length
    have hl2 := hr2.length
    rw [zipD_len]
    refine ⟨fun i hi => ⟨⟨xs, ys, xs[i]'(by omega), ys[i]'(by omega), hq, hq2, by simp [show i < xs.length by omega], by simp [show i < ys.length by omega]⟩, fun x H4 y => ?_⟩, ⟨xs, ys, hq, hq2, by omega⟩⟩
    obtain ⟨T, z, z2, rfl, hT, rfl, y1, y2⟩ := y
    obtain ⟨d, hd, rd⟩ := hr.getV (y1 xs hq)
    obtain ⟨d2, hd2, rd2⟩ := hr2.getV (y2 ys hq2)
    have g := Gr.new (o := .tup [z, z2]) e3 hT
    exact ⟨_, _, g, zipD_get hd hd2, .tup (.inl (.inl upd_same)) (.cons (rd.ex (e2.trans g.ex)) (.cons (rd2.ex (e2.trans g.ex)) .nil))⟩) fun C G' H' g x => kx C G' H' (s.tr g1 g) x) kx

/-! ### comprehensions -/
def wipeE (Δ : En) : List Nat → En
  | [] => Δ
  | v :: vs => (wipeE Δ vs).set v .no
theorem sta_wipe {q : Qd} {G0 H0 G H : Hp} {σ : L2.St} (s : Sta K q G0 H0 G H σ Δ) : ∀ vs : List Nat, Sta K q G0 H0 G H (wipe σ vs) (wipeE Δ vs)
  | [] => s
  | v :: vs => (sta_wipe s vs).setAny
theorem wipe_wipe {σ : L2.St} : ∀ {vs us : List Nat}, (∀ v ∈ us, v ∈ vs) → wipe (wipe σ us) vs = wipe σ vs
  | _, [], _ => rfl
  | vs, u :: us, h => by
    show wipe ((wipe σ us).set u none) vs = wipe σ vs
    rw [wipe_set_in (h u List.mem_cons_self)]
    exact wipe_wipe fun v hv => h v (List.mem_cons_of_mem _ hv)
abbrev E00 : L2.St → XK := fun _ _ _ _ => False
theorem ev_lc {g : TG} {vs : List Nat} {E : L2.St → XK} (hw : Ew K E wi Δ Rw X) (I : List D → Nat → List D → Prop) (h0 : ∀ items, Rw items → I items 0 [])
    (hs : ∀ items i d acc, Rw items → items[i]? = some d → I items i acc → ∃ js Δ2, (∀ j ∈ js, j ∈ vs) ∧ Tg K g js (wipeE Δ vs) d Δ2 ∧
      Et K E00 tt Δ2 (fun b => (b = true → Ev K E00 te Δ2 (fun e => acc.length < sizeLine ∧ I items (i + 1) (acc ++ [e])) fun _ => False) ∧ (b = false → I items (i + 1) acc)) fun _ => False)
    (hd : ∀ items acc, Rw items → I items items.length acc → R (.lst acc)) : Ev K E (tLc wi g tt te vs) Δ R X := fun q G0 H0 G H σ Q s k kx => by
  refine hw q G0 H0 G H σ _ s (fun J items Gw Hw gw wk rw_ => ?_) kx
  intro Dl hDl
  have hHD : Nt H Dl := gw.live s.dq (.of hDl)
  have hqD : ∀ T, q ≠ some (Dl, T) := fun T c => by
    obtain ⟨x, y, z, e⟩ := ((s.go gw).dq Dl T c).1
    rw [hDl] at e; cases e
  have hGw : Nt Gw Dl := fun o c => Classical.byContradiction fun n => by
    rw [gw.sub Dl o c (fun ps z => n ⟨ps, z⟩)] at hDl; cases hDl
  have nop : ∀ {F : Hp} {a : Addr} {o : HO}, Nt F Dl → F a = some o → (∀ ps, o ≠ HO.tbl ps) → a ≠ Dl := fun n e nt z => by
    rw [z] at e
    obtain ⟨ps, h⟩ := n _ e
    exact nt ps h
  -- writing the list that grows
  have put : ∀ {G1 H1 : Hp} {ws : List V}, Gr q G H G1 H1 → Nt G1 Dl → (H1 Dl = none ∨ ∃ us, H1 Dl = some (.lst us)) → Gr q G H G1 (upd H1 Dl (.lst ws)) := fun {G1 H1 ws} g1 n1 h1 => by
    have tb : Tbd H1 (upd H1 Dl (.lst ws)) := by
      rcases h1 with h1 | ⟨us, h1⟩
      · exact .new h1
      · exact .chg h1
    refine ⟨g1.ex, g1.nw, fun a o e nt => ?_, fun a o c e nt => ?_, fun c T t => tb T (g1.tk c T t), fun a T c d => ?_⟩
    · rw [upd_ne (nop n1 e nt)]; exact g1.sub a o e nt
    · rw [upd_ne (nop hHD e nt)]; exact g1.keep a o c e nt
    · have : a ≠ Dl := fun z => by rw [z] at c; exact hqD T c
      obtain ⟨⟨x, y, z, e⟩, t⟩ := g1.dq a T c d
      exact ⟨⟨x, y, z, by rw [upd_ne this]; exact e⟩, tb T t⟩
  refine ⟨fun i m H' => m = items.length - i ∧ i ≤ items.length ∧ ∃ G' ws acc, Gr q G H G' H' ∧ Exx Gw G' ∧ Nt G' Dl ∧ H' Dl = some (.lst ws) ∧ RpL K G' ws acc ∧ I items i acc,
    ⟨items.length, rfl, Nat.zero_le _, Gw, [], [], put gw hGw (.inl hDl), Exx.refl _, hGw, upd_same, .nil, h0 items rw_⟩, ?_⟩
  rintro i m H1 ⟨rfl, hi, G1, ws, acc, g1, e1, n1, hD1, r1, i1⟩
  obtain ⟨wg, wst⟩ := wk G1 H1 e1 g1.sub
  by_cases hlt : i < items.length
  · obtain ⟨go, yl⟩ := wg i hlt
    refine .inr ⟨go, fun H' => ∃ G' ws acc, Gr q G H G' H' ∧ Exx Gw G' ∧ Nt G' Dl ∧ H' Dl = some (.lst ws) ∧ RpL K G' ws acc ∧ I items (i + 1) acc, fun H' h => ⟨items.length - (i + 1), by omega, rfl, hlt, h⟩, fun x H2 y => ?_⟩
    obtain ⟨G2, d, g2, hd', rx⟩ := yl x H2 y
    have s1 := s.go g1
    have s2 := sta_wipe (s1.go g2.any) vs
    obtain ⟨js, Δ2, hjs, ht, hb⟩ := hs items i d acc rw_ hd' i1
    refine ht q G0 H0 G2 H2 (wipe σ vs) x _ s2 rx fun σ3 s3 w3 => ⟨(w3 vs hjs).trans (wipe_wipe fun v hv => hv), ?_⟩
    have keepD : ∀ {G5 H5 : Hp}, Gr q G1 H1 G5 H5 → Nt G5 Dl ∧ H5 Dl = some (.lst ws) := fun {G5 H5} g5 => ⟨g5.un n1 hD1, g5.kl hqD hD1⟩
    refine hb q G0 H0 G2 H2 σ3 _ s3 (fun b G3 H3 g3 p3 => ?_) fun _ _ _ _ z => z.elim
    have g13 : Gr q G1 H1 G3 H3 := s1.tr g2.any g3
    cases b with
    | false =>
      obtain ⟨a1, a2⟩ := keepD g13
      exact iteF ⟨G3, ws, acc, s.tr g1 g13, e1.trans g13.ex, a1, a2, r1.ex g13.ex, p3.2 rfl⟩
    | true =>
      refine iteT ((p3.1 rfl) q G0 H0 G3 H3 σ3 _ (s3.go g3) (fun u e G4 H4 g4 r4 p4 => ?_) fun _ _ _ _ z => z.elim)
      have g14 : Gr q G1 H1 G4 H4 := s1.tr g13 g4
      obtain ⟨a1, a2⟩ := keepD g14
      refine ⟨ws, a2, by rw [r1.length]; exact p4.1, G4, ws ++ [u], acc ++ [e], put (s.tr g1 g14) a1 (.inr ⟨_, a2⟩), e1.trans g14.ex, a1, upd_same, (r1.ex g14.ex).append (.cons r4 .nil), p4.2⟩
  · have e : i = items.length := by omega
    subst e
    refine .inl ⟨wst, ?_⟩
    have ex' : Exx G1 (upd G1 Dl (.lst ws)) := fun a o e nt => by rw [upd_ne (nop n1 e nt)]; exact e
    refine k (.ref Dl) (.lst acc) (upd G1 Dl (.lst ws)) H1 ⟨g1.ex.trans ex', fun a o e => ?_, fun a o e nt => ?_, g1.keep, g1.tk, g1.dq⟩ (.lst upd_same (r1.ex ex')) (hd items acc rw_ i1)
    · by_cases c : a = Dl
      · rw [c]; exact .inr hHD
      · rw [upd_ne c] at e; exact g1.nw a o e
    · by_cases c : a = Dl
      · rw [c, upd_same] at e; rw [c, ← e]; exact hD1
      · rw [upd_ne c] at e; exact g1.sub a o e nt
theorem et_yes {E : L2.St → XK} : Et K E tYes Δ (· = true) X := fun q G0 H0 G H σ Q s k _ => k true G H s.rf rfl
/-- [f(x) for x in items], no test, each with its value -/
theorem ev1_lc {g : TG} {vs : List Nat} {E : L2.St → XK} {items : List D} (f : Nat → D → D) (hw : Ew K E wi Δ (· = items) X) (hl : items.length ≤ 1000000)
    (hs : ∀ i d, items[i]? = some d → ∃ js Δ2, (∀ j ∈ js, j ∈ vs) ∧ Tg K g js (wipeE Δ vs) d Δ2 ∧ Ev K E00 te Δ2 (· = f i d) fun _ => False) : Ev K E (tLc wi g tYes te vs) Δ (· = .lst (items.mapIdx f)) X := by
  refine ev_lc hw (fun its i acc => acc = (its.take i).mapIdx f) (fun its _ => rfl) (fun its i d acc e hi ea => ?_) fun its acc e ea => ?_
  · subst e
    obtain ⟨js, Δ2, h1, h2, h3⟩ := hs i d hi
    have hlt := (List.getElem?_eq_some_iff.mp hi).1
    refine ⟨js, Δ2, h1, h2, et_yes.imp fun b eb => ⟨fun _ => h3.imp fun z ez => ⟨?_, ?_⟩, fun c => by rw [eb] at c; cases c⟩⟩
    · rw [ea, List.length_mapIdx, List.length_take]
      exact szlt (by omega)
    · have et : its.take (i + 1) = its.take i ++ [d] := by
        rw [List.take_add_one, hi]; rfl
      rw [et, List.mapIdx_append, ea, ez]
      have lt : (its.take i).length = i := by rw [List.length_take]; omega
      simp [lt]
  · subst e
    rw [ea, List.take_length]

/-! ### a def keeps its promise -/
def fnP (post : List D → Res → Prop) (ds : List D) : Out → Prop
  | .nx _ => post ds (.ret .non)
  | .rt d => post ds (.ret d)
  | .ex C _ => post ds (.exc C)
  | _ => False
/-- the slots at the entry -/
def argsE (N : List Str) (ds : List D) : En := ds.map Sl.dat ++ List.replicate (N.length - ds.length) Sl.no
theorem start_get {N : List Str} {vs : List V} {i : Nat} {v : V} (h : vs[i]? = some v) : (L2.start N vs)[i]? = some (some v) := by
  unfold L2.start
  have hl : i < vs.length := (List.getElem?_eq_some_iff.mp h).1
  rw [List.getElem?_append_left (by simpa using hl), List.getElem?_map, h]
  rfl
theorem argsE_get {N : List Str} {ds : List D} {i : Nat} {e : Sl} (h : (argsE N ds)[i]? = some e) : (∃ d, ds[i]? = some d ∧ e = .dat d) ∨ e = .no := by
  unfold argsE at h
  by_cases hi : i < ds.length
  · rw [List.getElem?_append_left (by simpa using hi), List.getElem?_map, List.getElem?_eq_getElem hi] at h
    exact .inl ⟨_, List.getElem?_eq_getElem hi, (Option.some.inj h).symm⟩
  · rw [List.getElem?_append_right (by simpa using hi), List.getElem?_replicate] at h
    split at h
    · exact .inr (Option.some.inj h).symm
    · cases h
theorem sta_args {G H : Hp} {N : List Str} {vs : List V} {ds : List D} (he : Exx G H) (r : RpL K G vs ds) (hl : ds.length ≤ N.length) : Sta K none G H G H (L2.start N vs) (argsE N ds) := by
  refine Sta.start ⟨he, ?_, fun a T e => (nomatch e), fun i d h => ?_, fun i bs h => ?_, fun i j bs cs p h => ?_, fun i T h => ?_⟩
  · unfold L2.start argsE
    simp [r.length]
  · rcases argsE_get h with ⟨e, h1, h2⟩ | h1
    · cases h2
      obtain ⟨v, hv, rv⟩ := r.get h1
      exact ⟨v, start_get hv, rv⟩
    · cases h1
  · rcases argsE_get h with ⟨e, _, h2⟩ | h1
    · cases h2
    · cases h1
  · rcases argsE_get h with ⟨e, _, h2⟩ | h1
    · cases h2
    · cases h1
  · rcases argsE_get h with ⟨e, _, h2⟩ | h1
    · cases h2
    · cases h1
section
variable {P : Program} {w : World} {mg : Str → Option Value} {base : Heap} {x qual : Str} {params : Arguments} {body : List Stmt} {scope : Scope} {dvs : List V} {kws : List (Str × V)} {f : Addr} {fd : FuncData} {N ps : List Str} {k : Nat} {pre : List D → Prop} {post : List D → Res → Prop}
abbrev wDef (E : XK) : WX := fun cls d _ H => E cls d H
theorem fn_D {t : WX → TS} (F : FunD K x qual params body scope dvs kws f fd) (S : FnScope N ps scope) (hp : ∀ ds, pre ds → ds.length = ps.length)
    (der : ∀ (cdv : Value) (A : Around) (outer : List Env) (s : Shared) (H : Hp) (E : XK), Room k (A.deeper (envOfC qual scope s.heap.objs.size f cdv)) → PSs (cxOf (L2.CX P w) P w K mg base N qual scope f cdv A outer s H E) body (t (wDef E)))
    (h : ∀ (W : WX) ds, pre ds → Xs K W (t W) (argsE N ds) (fnP post ds)) : FnOk P w K mg base (L2.CX P w) (k + 1) f fd ps (spD K pre post) := by
  have hNl : ps.length ≤ N.length := by have := congrArg List.length S.pre; rw [List.length_take] at this; omega
  refine F.ok S (fun vs H Q E hsp => ?_) fun cdv A outer s H vs Q E hr hsp => ⟨t (wDef E), der cdv A outer s H E hr, ?_⟩
  · obtain ⟨G, ds, _, r, p, _⟩ := hsp
    rw [r.length]; exact hp ds p
  · obtain ⟨G, ds, e, r, p, k1, k2⟩ := hsp
    have hl : ds.length ≤ N.length := by rw [hp ds p]; exact hNl
    exact h (wDef E) ds p none G H G H (L2.start N vs) _ (sta_args e r hl) (fun σ' Δ' G' H' e' s' q => k1 .non .non G' H' s'.gr .non q) (fun v d G' H' g rv q => k1 v d G' H' g rv q) (fun _ _ _ _ _ _ z => False.elim z) (fun _ _ _ _ _ _ z => False.elim z) fun C σ' Δ' G' H' e' s' q => k2 C G' H' s'.gr q
/-- the slots at the entry of a def that gets the dice first -/
def argsQ (T : Tb) (N : List Str) (ds : List D) : En := Sl.dice T :: (ds.map Sl.dat ++ List.replicate (N.length - ds.length - 1) Sl.no)
theorem sta_argsQ {T : Tb} {G H : Hp} {N : List Str} {a : Addr} {vs : List V} {ds : List D} (he : Exx G H) (n : Nt G a) (dq : DiceAt H a ∧ LamX.Tabs T H) (r : RpL K G vs ds) (hl : ds.length + 1 ≤ N.length) : Sta K (some (a, T)) G H G H (L2.start N (.ref a :: vs)) (argsQ T N ds) := by
  have g0 : ∀ {i : Nat} {e : Sl}, (argsQ T N ds)[i]? = some e → (i = 0 ∧ e = .dice T) ∨ (∃ j d, i = j + 1 ∧ ds[j]? = some d ∧ e = .dat d) ∨ e = .no := fun {i e} h => by
    cases i with
    | zero => exact .inl ⟨rfl, (Option.some.inj h).symm⟩
    | succ j =>
      have h' : (ds.map Sl.dat ++ List.replicate (N.length - ds.length - 1) Sl.no)[j]? = some e := by simpa [argsQ] using h
      by_cases hi : j < ds.length
      · rw [List.getElem?_append_left (by simpa using hi), List.getElem?_map, List.getElem?_eq_getElem hi] at h'
        exact .inr (.inl ⟨j, _, rfl, List.getElem?_eq_getElem hi, (Option.some.inj h').symm⟩)
      · rw [List.getElem?_append_right (by simpa using hi), List.getElem?_replicate] at h'
        split at h'
        · exact .inr (.inr (Option.some.inj h').symm)
        · cases h'
  refine Sta.start ⟨he, ?_, fun b T' e => ?_, fun i d h => ?_, fun i bs h => ?_, fun i j bs cs p h => ?_, fun i T' h => ?_⟩
  · unfold L2.start argsQ
    have := r.length
    simp only [List.length_append, List.length_map, List.length_replicate, List.length_cons]
    omega
  · cases e
    exact ⟨n, dq⟩
  · rcases g0 h with ⟨_, h2⟩ | ⟨j, e, rfl, h1, h2⟩ | h1
    · cases h2
    · cases h2
      obtain ⟨v, hv, rv⟩ := r.get h1
      exact ⟨v, start_get (by simpa using hv), rv⟩
    · cases h1
  · rcases g0 h with ⟨_, h2⟩ | ⟨j, e, rfl, h1, h2⟩ | h1
    · cases h2
    · cases h2
    · cases h1
  · rcases g0 h with ⟨_, h2⟩ | ⟨j, e, rfl, h1, h2⟩ | h1
    · cases h2
    · cases h2
    · cases h1
  · rcases g0 h with ⟨h1, h2⟩ | ⟨j, e, _, _, h2⟩ | h1
    · subst h1
      cases h2
      exact ⟨a, rfl, start_get rfl⟩
    · cases h2
    · cases h1
theorem fn_Q {T : Tb} {t : WX → TS} (F : FunD K x qual params body scope dvs kws f fd) (S : FnScope N ps scope) (hp : ∀ ds, pre ds → ds.length + 1 = ps.length)
    (der : ∀ (cdv : Value) (A : Around) (outer : List Env) (s : Shared) (H : Hp) (E : XK), Room k (A.deeper (envOfC qual scope s.heap.objs.size f cdv)) → PSs (cxOf (L2.CX P w) P w K mg base N qual scope f cdv A outer s H E) body (t (wDef E)))
    (h : ∀ (W : WX) ds, pre ds → Xs K W (t W) (argsQ T N ds) (fnP post ds)) : FnOk P w K mg base (L2.CX P w) (k + 1) f fd ps (spQ K T pre post) := by
  have hNl : ps.length ≤ N.length := by have := congrArg List.length S.pre; rw [List.length_take] at this; omega
  refine F.ok S (fun vs H Q E hsp => ?_) fun cdv A outer s H vs Q E hr hsp => ⟨t (wDef E), der cdv A outer s H E hr, ?_⟩
  · obtain ⟨G, a, ws, ds, rfl, _, _, _, r, p, _⟩ := hsp
    rw [List.length_cons, r.length]; exact hp ds p
  · obtain ⟨G, a, ws, ds, rfl, e, n, dq, r, p, k1, k2⟩ := hsp
    have hl : ds.length + 1 ≤ N.length := by rw [hp ds p]; exact hNl
    exact h (wDef E) ds p (some (a, T)) G H G H (L2.start N (.ref a :: ws)) _ (sta_argsQ e n dq r hl) (fun σ' Δ' G' H' e' s' q => k1 .non .non G' H' s'.gr .non q) (fun v d G' H' g rv q => k1 v d G' H' g rv q) (fun _ _ _ _ _ _ z => False.elim z) (fun _ _ _ _ _ _ z => False.elim z) fun C σ' Δ' G' H' e' s' q => k2 C G' H' s'.gr q
end
end
end Ts


namespace Ts
open PySem PySem.Spec PyProof.Rows L2

/-! ### one rule for each operator, whatever its values -/
section
variable {X : Cx}
theorem OpR.or {f : Value → Value → Sem Value} {r r' : R2} (h : OpR X f r) (h' : OpR X f r') : OpR X f (fun x y H Q => r x y H Q ∨ r' x y H Q) := by
  intro pins s σ H x y v u Q I rx ry q
  rcases q with q | q
  · exact h pins s σ H x y v u Q I rx ry q
  · exact h' pins s σ H x y v u Q I rx ry q
theorem CallR.or {f : Value} {r r' : List V → Hp → VK → Prop} (h : CallR X f r) (h' : CallR X f r') : CallR X f (fun xs H Q => r xs H Q ∨ r' xs H Q) := by
  intro pins s σ H xs us Q I rx q
  rcases q with q | q
  · exact h pins s σ H xs us Q I rx q
  · exact h' pins s σ H xs us Q I rx q
theorem SlR.or {r r' : V → Option Int → Option Int → Hp → VK → Prop} (h : SlR X r) (h' : SlR X r') : SlR X (fun x lo hi H Q => r x lo hi H Q ∨ r' x lo hi H Q) := by
  intro pins s σ H x v vl vu lo hi sl Q I rx hs pl pu q
  rcases q with q | q
  · exact h pins s σ H x v vl vu lo hi sl Q I rx hs pl pu q
  · exact h' pins s σ H x v vl vu lo hi sl Q I rx hs pl pu q
theorem PIp.or {op : Operator} {r r' : TIp} (h : PIp X op r) (h' : PIp X op r') : PIp X op (fun x y H Q => r x y H Q ∨ r' x y H Q) := by
  intro pins s σ H x y v u Q I rx ry q
  rcases q with q | q
  · exact h pins s σ H x y v u Q I rx ry q
  · exact h' pins s σ H x y v u Q I rx ry q
theorem pi_or {tg e : Expr} {w w' : TI} (h : PI X tg e w) (h' : PI X tg e w') : PI X tg e (fun σ H R => w σ H R ∨ w' σ H R) := by
  refine ⟨fun pins s σ H R I q => ?_⟩
  rcases q with q | q
  · exact h.run pins s σ H R I q
  · exact h'.run pins s σ H R I q
end
def rAddS : R2 := fun x y H Q => ∃ i j, x = .str i ∧ y = .str j ∧ i.length + j.length ≤ sizeLine ∧ Q (.str (i ++ j)) H
def rAddG (K : PySem.W.Frag) : R2 := fun x y H Q => rI0 (fun i j => .int (i + j)) x y H Q ∨ (rAddS x y H Q ∨ (rCatA K x y H Q ∨ rCat x y H Q))
def rSubG : R2 := rI0 fun i j => .int (i - j)
def rMulG : R2 := fun x y H Q => rI CMul (fun i j => .int (i * j)) x y H Q ∨ (rI CMulW (fun i j => .int (i * j)) x y H Q ∨ rRep x y H Q)
def rDivG : R2 := rI CDivW fun i j => .int (i / j)
def rModG : R2 := rI (fun _ j => 0 < j) fun i j => .int (i % j)
def rPowG : R2 := rI CPow fun i j => .int (i ^ j.toNat)
def rEqG (K : PySem.W.Frag) : R2 := fun x y H Q => rEq x y H Q ∨ rEqD K x y H Q
def rNeG (K : PySem.W.Frag) : R2 := fun x y H Q => rNe x y H Q ∨ rNeD K x y H Q
def rLtS : R2 := fun x y H Q => ∃ i j, x = .str i ∧ y = .str j ∧ Q (.bl (decide (i.cps.toList < j.cps.toList))) H
def rLtG (K : PySem.W.Frag) : R2 := fun x y H Q => rI0 (fun i j => .bl (decide (i < j))) x y H Q ∨ (rLtS x y H Q ∨ rLtT K x y H Q)
def rLeG : R2 := rI0 fun i j => .bl (decide (i ≤ j))
def rGtG : R2 := rI0 fun i j => .bl (decide (j < i))
def rGeG : R2 := rI0 fun i j => .bl (decide (j ≤ i))
def rInS (neg : Bool) : R2 := fun x y H Q => ∃ i j, x = .str i ∧ y = .str j ∧ Q (.bl (if neg then !(!(Builtin.Str.occurrences j i 0 j.length 1).isEmpty) else !(Builtin.Str.occurrences j i 0 j.length 1).isEmpty)) H
def rInG (K : PySem.W.Frag) (neg : Bool) : R2 := fun x y H Q => rIn K neg x y H Q ∨ rInS neg x y H Q
def rIsN : R2 := fun x y H Q => y = .non ∧ Q (.bl (decide (x = .non))) H
def rNotN : R2 := fun x y H Q => y = .non ∧ Q (.bl (!decide (x = .non))) H
def rSlG (K : PySem.W.Frag) : V → Option Int → Option Int → Hp → VK → Prop := fun x lo hi H Q => rSlL K x lo hi H Q ∨ (rSlA K x lo hi H Q ∨ rSlS x lo hi H Q)
def rInt1 : List V → Hp → VK → Prop := fun xs H Q => (∃ i, xs = [.int i] ∧ Q (.int i) H) ∨ ∃ k, xs = [.bl k] ∧ Q (.int (if k then 1 else 0)) H
def rAbs : List V → Hp → VK → Prop := fun xs H Q => ∃ i, xs = [.int i] ∧ Q (.int (if i < 0 then -i else i)) H
def rTupO (K : PySem.W.Frag) : List V → Hp → VK → Prop := fun xs H Q => ∃ p ys, xs = [.ref p] ∧ ((SqL K H p ys ∧ ∀ l, H l = none → Q (.ref l) (upd H l (.tup ys))) ∨ (SqT K H p ys ∧ Q (.ref p) H))
def rLstO (K : PySem.W.Frag) : List V → Hp → VK → Prop := fun xs H Q => ∃ p ys, xs = [.ref p] ∧ (SqL K H p ys ∨ SqT K H p ys) ∧ ∀ l, H l = none → Q (.ref l) (upd H l (.lst ys))
def rMin2 : List V → Hp → VK → Prop := fun xs H Q => ∃ i j, xs = [.int i, .int j] ∧ Q (.int (if j < i then j else i)) H
def rMax2 : List V → Hp → VK → Prop := fun xs H Q => ∃ i j, xs = [.int i, .int j] ∧ Q (.int (if j > i then j else i)) H
def rIns : V → List V → Hp → VK → Prop := fun x vs H Q => ∃ (l : Addr) (xs : List V) (i : Int) (y : V), x = .ref l ∧ vs = [.int i, y] ∧ H l = some (.lst xs) ∧ xs.length < sizeLine ∧ 0 ≤ i ∧ i < 2 ^ 63 ∧
  Q .non (upd H l (.lst (xs.take i.toNat ++ [y] ++ xs.drop i.toNat)))
section
variable {X : Cx}
theorem op_addG : OpR X (binaryOp .Add) (rAddG X.K) := OpR.or op_add (OpR.or op_add_str (OpR.or op_catA op_cat))
theorem op_subG : OpR X (binaryOp .Sub) rSubG := op_sub
theorem op_mulG : OpR X (binaryOp .Mult) rMulG := OpR.or op_mul (OpR.or op_mulW op_rep)
theorem op_divG : OpR X (binaryOp .FloorDiv) rDivG := op_fdivW
theorem op_modG : OpR X (binaryOp .Mod) rModG := op_mod
theorem op_powG : OpR X (binaryOp .Pow) rPowG := op_pow
theorem op_eqG (hu : X.A.units + 64 < cLine) : OpR X (compareOp .Eq) (rEqG X.K) := OpR.or op_eq (op_eqD hu)
theorem op_neG (hu : X.A.units + 64 < cLine) : OpR X (compareOp .NotEq) (rNeG X.K) := OpR.or op_ne (op_neD hu)
theorem op_ltG (hu : X.A.units < cLine) : OpR X (compareOp .Lt) (rLtG X.K) := OpR.or op_lt (OpR.or op_lt_str (op_ltT hu))
theorem op_leG : OpR X (compareOp .LtE) rLeG := op_le
theorem op_gtG : OpR X (compareOp .Gt) rGtG := op_gt
theorem op_geG : OpR X (compareOp .GtE) rGeG := op_ge
theorem op_inG : OpR X (compareOp .In) (rInG X.K false) := OpR.or op_in_seq op_in_str
theorem op_notInG : OpR X (compareOp .NotIn) (rInG X.K true) := OpR.or op_notIn_seq op_notIn_str
theorem op_isNG : OpR X (compareOp .Is) rIsN := op_isN
theorem op_notNG : OpR X (compareOp .IsNot) rNotN := op_notN
theorem sl_G : SlR X (rSlG X.K) := SlR.or sl_list (SlR.or sl_tupA sl_str)
theorem call_lenG : CallR X (.builtin "len") (rLenC X.K) := call_len
theorem call_intG : CallR X (.type "int") rInt1 := call_int1
theorem call_absG : CallR X (.builtin "abs") rAbs := call_abs
theorem call_tupG : CallR X (.type "tuple") (rTupO X.K) := call_tuple_of
theorem call_lstG : CallR X (.type "list") (rLstO X.K) := call_list_of
theorem call_minG (hc : X.calm = true) : CallR X (.builtin "min") rMin2 := call_min2 hc
theorem call_maxG (hc : X.calm = true) : CallR X (.builtin "max") rMax2 := call_max2 hc
end
/-- a walk over a list, a tuple, a text -/
def iSeq (K : PySem.W.Frag) (te : TE) : TI := fun σ H R => iList K te σ H R ∨ (iTup K te σ H R ∨ iStr te σ H R)
theorem pi_seq {X : Cx} {tg e : Expr} {te : TE} (h : PE X e te) : PI X tg e (iSeq X.K te) := pi_or (pi_list h) (pi_or (pi_tup h) (pi_str h))

/-! ### the operations over data -/
section
variable {K : PySem.W.Frag}
theorem ret1 {G H : Hp} {v : V} {d : D} {Q : VK} (e : Exx G H) (r : Rp K G v d) (k : ∀ (u : V) (d' : D) (G' H' : Hp), Gr none G H G' H' → Rp K G' u d' → d' = d → Q u H') : Q v H := k v d G H (Gr.refl e) r rfl
theorem od_int {g : Int → Int → V} {h : Int → Int → D} {i j : Int} (hg : ∀ G, Rp K G (g i j) (h i j)) : OpD K (rI0 g) (.int i) (.int j) (· = h i j) := fun G H v w Q e r1 r2 k => by
  cases r1; cases r2
  exact ⟨i, j, rfl, rfl, ret1 e (hg G) k⟩
theorem od_intC {C : Int → Int → Prop} {g : Int → Int → V} {h : Int → Int → D} {i j : Int} (hc : C i j) (hg : ∀ G, Rp K G (g i j) (h i j)) : OpD K (rI C g) (.int i) (.int j) (· = h i j) := fun G H v w Q e r1 r2 k => by
  cases r1; cases r2
  exact ⟨i, j, rfl, rfl, hc, ret1 e (hg G) k⟩
theorem od_inl {r r' : R2} {x y : D} {R : D → Prop} (h : OpD K r x y R) : OpD K (fun x y H Q => r x y H Q ∨ r' x y H Q) x y R := fun G H v w Q e r1 r2 k => .inl (h G H v w Q e r1 r2 k)
theorem od_inr {r r' : R2} {x y : D} {R : D → Prop} (h : OpD K r' x y R) : OpD K (fun x y H Q => r x y H Q ∨ r' x y H Q) x y R := fun G H v w Q e r1 r2 k => .inr (h G H v w Q e r1 r2 k)
theorem od_add {i j : Int} : OpD K (rAddG K) (.int i) (.int j) (· = .int (i + j)) := od_inl (od_int (g := fun i j => .int (i + j)) (h := fun i j => .int (i + j)) fun G => .int _)
theorem od_sub {i j : Int} : OpD K rSubG (.int i) (.int j) (· = .int (i - j)) := od_int (g := fun i j => .int (i - j)) (h := fun i j => .int (i - j)) fun G => .int _
theorem od_mul {i j : Int} (h : CMul i j) : OpD K rMulG (.int i) (.int j) (· = .int (i * j)) := od_inl (od_intC (g := fun i j => .int (i * j)) (h := fun i j => .int (i * j)) h fun G => .int _)
theorem od_mulW {i j : Int} (h : CMulW i j) : OpD K rMulG (.int i) (.int j) (· = .int (i * j)) := od_inr (od_inl (od_intC (g := fun i j => .int (i * j)) (h := fun i j => .int (i * j)) h fun G => .int _))
theorem od_div {i j : Int} (h : CDivW i j) : OpD K rDivG (.int i) (.int j) (· = .int (i / j)) := od_intC (g := fun i j => .int (i / j)) (h := fun i j => .int (i / j)) h fun G => .int _
theorem od_mod {i j : Int} (h : 0 < j) : OpD K rModG (.int i) (.int j) (· = .int (i % j)) := od_intC (g := fun i j => .int (i % j)) (h := fun i j => .int (i % j)) h fun G => .int _
theorem od_pow {i j : Int} (h : CPow i j) : OpD K rPowG (.int i) (.int j) (· = .int (i ^ j.toNat)) := od_intC (g := fun i j => .int (i ^ j.toNat)) (h := fun i j => .int (i ^ j.toNat)) h fun G => .int _
theorem od_lt {i j : Int} : OpD K (rLtG K) (.int i) (.int j) (· = .bl (decide (i < j))) := od_inl (od_int (g := fun i j => .bl (decide (i < j))) (h := fun i j => .bl (decide (i < j))) fun G => .bl _)
theorem od_le {i j : Int} : OpD K rLeG (.int i) (.int j) (· = .bl (decide (i ≤ j))) := od_int (g := fun i j => .bl (decide (i ≤ j))) (h := fun i j => .bl (decide (i ≤ j))) fun G => .bl _
theorem od_gt {i j : Int} : OpD K rGtG (.int i) (.int j) (· = .bl (decide (j < i))) := od_int (g := fun i j => .bl (decide (j < i))) (h := fun i j => .bl (decide (j < i))) fun G => .bl _
theorem od_ge {i j : Int} : OpD K rGeG (.int i) (.int j) (· = .bl (decide (j ≤ i))) := od_int (g := fun i j => .bl (decide (j ≤ i))) (h := fun i j => .bl (decide (j ≤ i))) fun G => .bl _
/-- scalars, as values -/
def D.v : D → Option V
  | .non => some .non
  | .bl b => some (.bl b)
  | .int i => some (.int i)
  | .str x => some (.str x)
  | _ => none
theorem Rp.sc {G : Hp} {v w : V} {d : D} (r : Rp K G v d) (h : d.v = some w) : v = w := by
  cases r <;> cases h <;> rfl
theorem od_eqS {x y : D} {v w : V} (hx : x.v = some v) (hy : y.v = some w) (hs : scal v w = true) : OpD K (rEqG K) x y (· = .bl (decide (v = w))) := fun G H v' w' Q e r1 r2 k => by
  rw [r1.sc hx, r2.sc hy]
  exact .inl ⟨hs, ret1 e (.bl _) k⟩
theorem od_neS {x y : D} {v w : V} (hx : x.v = some v) (hy : y.v = some w) (hs : scal v w = true) : OpD K (rNeG K) x y (· = .bl (!decide (v = w))) := fun G H v' w' Q e r1 r2 k => by
  rw [r1.sc hx, r2.sc hy]
  exact .inl ⟨hs, ret1 e (.bl _) k⟩
theorem od_eqI {i j : Int} : OpD K (rEqG K) (.int i) (.int j) (· = .bl (decide (i = j))) := by
  have h : OpD K (rEqG K) (.int i) (.int j) (· = .bl (decide (V.int i = V.int j))) := od_eqS rfl rfl rfl
  have e : decide (V.int i = V.int j) = decide (i = j) := by rw [Bool.eq_iff_iff]; simp
  rw [e] at h
  exact h
theorem od_neI {i j : Int} : OpD K (rNeG K) (.int i) (.int j) (· = .bl (!decide (i = j))) := by
  have h : OpD K (rNeG K) (.int i) (.int j) (· = .bl (!decide (V.int i = V.int j))) := od_neS rfl rfl rfl
  have e : decide (V.int i = V.int j) = decide (i = j) := by rw [Bool.eq_iff_iff]; simp
  rw [e] at h
  exact h
theorem od_eqB {i j : Bool} : OpD K (rEqG K) (.bl i) (.bl j) (· = .bl (i == j)) := by
  have h : OpD K (rEqG K) (.bl i) (.bl j) (· = .bl (decide (V.bl i = V.bl j))) := od_eqS rfl rfl rfl
  rw [dec_bl] at h
  exact h
theorem od_neB {i j : Bool} : OpD K (rNeG K) (.bl i) (.bl j) (· = .bl (i != j)) := by
  have h : OpD K (rNeG K) (.bl i) (.bl j) (· = .bl (!decide (V.bl i = V.bl j))) := od_neS rfl rfl rfl
  rw [dec_bl] at h
  exact h
theorem od_eqX {i j : Str} : OpD K (rEqG K) (.str i) (.str j) (· = .bl (decide (i = j))) := by
  have h : OpD K (rEqG K) (.str i) (.str j) (· = .bl (decide (V.str i = V.str j))) := od_eqS rfl rfl rfl
  have e : decide (V.str i = V.str j) = decide (i = j) := by rw [Bool.eq_iff_iff]; simp
  rw [e] at h
  exact h
theorem od_neX {i j : Str} : OpD K (rNeG K) (.str i) (.str j) (· = .bl (!decide (i = j))) := by
  have h : OpD K (rNeG K) (.str i) (.str j) (· = .bl (!decide (V.str i = V.str j))) := od_neS rfl rfl rfl
  have e : decide (V.str i = V.str j) = decide (i = j) := by rw [Bool.eq_iff_iff]; simp
  rw [e] at h
  exact h
/-! deep == -/
mutual
def D.py : D → PyData
  | .non => .none
  | .bl b => .bool b
  | .int i => .int i
  | .str x => .str x
  | .lst xs => .list (D.pys xs)
  | .tup xs => .tuple (D.pys xs)
  | .obj _ _ => .none
def D.pys : List D → List PyData
  | [] => []
  | d :: ds => d.py :: D.pys ds
end
mutual
/-- no instance within -/
def D.pure : D → Bool
  | .lst xs => D.pures xs
  | .tup xs => D.pures xs
  | .obj _ _ => false
  | _ => true
def D.pures : List D → Bool
  | [] => true
  | d :: ds => d.pure && D.pures ds
end
mutual
theorem Rp.dp {G H : Hp} (e : Exx G H) : ∀ {v : V} {d : D}, Rp K G v d → d.pure = true → Dp K H v d.py
  | _, _, .non, _ => .non
  | _, _, .bl b, _ => .bl b
  | _, _, .int i, _ => .int i
  | _, _, .str x, _ => .str x
  | _, _, .lst h r, p => .lst (.inl (.inl (e.l h))) (RpL.dp e r p)
  | _, _, .tup h r, p => .tup (st_ex e h) (RpL.dp e r p)
  | _, _, .obj h r, p => nomatch p
theorem RpL.dp {G H : Hp} (e : Exx G H) : ∀ {vs : List V} {ds : List D}, RpL K G vs ds → D.pures ds = true → DpAll K H vs (D.pys ds)
  | _, _, .nil, _ => .nil
  | _, _, .cons h r, p => by
    have p' := Bool.and_eq_true_iff.mp p
    exact .cons (Rp.dp e h p'.1) (RpL.dp e r p'.2)
end
/-- what == can look at -/
def D.ok (d : D) : Bool := d.pure && SeqAt.shaped d.py
theorem od_eqD {x y : D} (hx : x.ok = true) (hy : y.ok = true) : OpD K (rEqG K) x y (· = .bl (PyData.eqv x.py y.py)) := fun G H v w Q e r1 r2 k => by
  obtain ⟨a1, a2⟩ := Bool.and_eq_true_iff.mp hx
  obtain ⟨b1, b2⟩ := Bool.and_eq_true_iff.mp hy
  exact .inr ⟨_, _, r1.dp e a1, r2.dp e b1, a2, b2, ret1 e (.bl _) k⟩
theorem od_neD {x y : D} (hx : x.ok = true) (hy : y.ok = true) : OpD K (rNeG K) x y (· = .bl (!PyData.eqv x.py y.py)) := fun G H v w Q e r1 r2 k => by
  obtain ⟨a1, a2⟩ := Bool.and_eq_true_iff.mp hx
  obtain ⟨b1, b2⟩ := Bool.and_eq_true_iff.mp hy
  exact .inr ⟨_, _, r1.dp e a1, r2.dp e b1, a2, b2, ret1 e (.bl _) k⟩
theorem D.eqv_self {d : D} (h : d.ok = true) : PyData.eqv d.py d.py = true := SeqAt.eqv_refl d.py (SeqAt.canLay_of_shaped (Bool.and_eq_true_iff.mp h).2)
theorem od_neSelf {x y : D} (hx : x.ok = true) (e : x = y) : OpD K (rNeG K) x y (· = .bl false) := by
  subst e
  have h := od_neD (K := K) hx hx
  rw [D.eqv_self hx] at h
  exact h
theorem od_eqSelf {x y : D} (hx : x.ok = true) (e : x = y) : OpD K (rEqG K) x y (· = .bl true) := by
  subst e
  have h := od_eqD (K := K) hx hx
  rw [D.eqv_self hx] at h
  exact h
/-! places -/
theorem RpL.at_ {G : Hp} {vs : List V} {ds : List D} {i : Int} {d : D} (r : RpL K G vs ds) (h : atI ds i = some d) : ∃ v, atI vs i = some v ∧ Rp K G v d := by
  unfold atI at h ⊢
  rw [r.length]
  cases e : ixN ds.length i with
  | none => rw [e] at h; cases h
  | some l =>
    rw [e] at h
    exact r.get h
theorem od_ixL {ds : List D} {i : Int} {d : D} (h : atI ds i = some d) : OpD K (rIx K) (.lst ds) (.int i) (· = d) := fun G H v w Q e r1 r2 k => by
  cases r2
  obtain ⟨a, xs, rfl, ha, hr⟩ := r1.lst_inv
  obtain ⟨u, h1, h2⟩ := hr.at_ h
  exact .inl ⟨a, xs, i, u, rfl, rfl, .inl (.inl (e.l ha)), h1, ret1 e h2 k⟩
theorem od_ixT {ds : List D} {i : Int} {d : D} (h : atI ds i = some d) : OpD K (rIx K) (.tup ds) (.int i) (· = d) := fun G H v w Q e r1 r2 k => by
  cases r2
  obtain ⟨a, xs, rfl, ha, hr⟩ := r1.tup_inv
  obtain ⟨u, h1, h2⟩ := hr.at_ h
  exact .inr (.inl ⟨a, xs, i, u, rfl, rfl, st_ex e ha, h1, ret1 e h2 k⟩)
theorem od_ixS {z : Str} {i : Int} {c : Nat} (hz : z.length ≤ sizeLine) (h : atI z.cps.toList i = some c) : OpD K (rIx K) (.str z) (.int i) (· = .str ⟨#[c]⟩) := fun G H v w Q e r1 r2 k => by
  cases r2
  cases r1
  exact .inr (.inr ⟨z, i, c, rfl, rfl, hz, h, ret1 e (.str _) k⟩)
theorem atI_nn {α : Type} {xs : List α} {i : Int} {d : α} (h0 : 0 ≤ i) (h : xs[i.toNat]? = some d) : atI xs i = some d := by
  have := atI_nat h
  rwa [Int.toNat_of_nonneg h0] at this
/-! joining -/
theorem od_catT {xs ys : List D} (hz : xs.length + ys.length ≤ sizeLine) : OpD K (rAddG K) (.tup xs) (.tup ys) (· = .tup (xs ++ ys)) := fun G H v w Q e r1 r2 k => by
  obtain ⟨a, as, rfl, ha, hr⟩ := r1.tup_inv
  obtain ⟨b, bs, rfl, hb, hs⟩ := r2.tup_inv
  have la := hr.length
  have lb := hs.length
  refine .inr (.inr (.inl ⟨a, b, as, bs, rfl, rfl, st_ex e ha, st_ex e hb, by omega, fun z => ?_, fun _ z => ?_, fun _ _ p hp => ?_⟩))
  · subst z
    cases hr
    exact ret1 e (.tup hb hs) k
  · subst z
    cases hs
    exact ret1 e (.tup ha (by rw [List.append_nil]; exact hr)) k
  · have g := Gr.new (o := .tup (as ++ bs)) e hp
    exact k _ _ _ _ g (.tup (.inl (.inl upd_same)) ((hr.append hs).ex g.ex)) rfl
theorem od_catL {xs ys : List D} (hz : xs.length + ys.length ≤ sizeLine) : OpD K (rAddG K) (.lst xs) (.lst ys) (· = .lst (xs ++ ys)) := fun G H v w Q e r1 r2 k => by
  obtain ⟨a, as, rfl, ha, hr⟩ := r1.lst_inv
  obtain ⟨b, bs, rfl, hb, hs⟩ := r2.lst_inv
  have la := hr.length
  have lb := hs.length
  refine .inr (.inr (.inr ⟨a, b, as, bs, rfl, rfl, e.l ha, e.l hb, by omega, fun p hp => ?_⟩))
  have g := Gr.new (o := .lst (as ++ bs)) e hp
  exact k _ _ _ _ g (.lst upd_same ((hr.append hs).ex g.ex)) rfl
theorem od_catS {x y : Str} (hz : x.length + y.length ≤ sizeLine) : OpD K (rAddG K) (.str x) (.str y) (· = .str (x ++ y)) := fun G H v w Q e r1 r2 k => by
  cases r1; cases r2
  exact .inr (.inl ⟨x, y, rfl, rfl, hz, ret1 e (.str _) k⟩)
theorem od_repL {xs : List D} {n : Int} (h1 : -(2 ^ 63) ≤ n) (h2 : n < 2 ^ 63) (hz : xs.length * n.toNat ≤ sizeLine) : OpD K rMulG (.lst xs) (.int n) (· = .lst (List.replicate n.toNat xs).flatten) := fun G H v w Q e r1 r2 k => by
  cases r2
  obtain ⟨a, as, rfl, ha, hr⟩ := r1.lst_inv
  refine .inr (.inr ⟨a, n, as, rfl, rfl, e.l ha, h1, h2, by rw [hr.length]; exact hz, fun p hp => ?_⟩)
  have g := Gr.new (o := .lst (List.replicate n.toNat as).flatten) e hp
  have rr : ∀ m : Nat, RpL K G (List.replicate m as).flatten (List.replicate m xs).flatten := fun m => by
    induction m with
    | zero => exact .nil
    | succ m ih =>
      rw [List.replicate_succ, List.replicate_succ, List.flatten_cons, List.flatten_cons]
      exact hr.append ih
  exact k _ _ _ _ g (.lst upd_same ((rr _).ex g.ex)) rfl
/-! cutting -/
def cutD (xs : List D) (lo hi : Option Int) : List D := (xs.drop (HT.sIx xs.length 0 lo)).take (HT.sIx xs.length xs.length hi - HT.sIx xs.length 0 lo)
theorem RpL.cut {G : Hp} {vs : List V} {ds : List D} (r : RpL K G vs ds) (lo hi : Option Int) : RpL K G (cutV vs lo hi) (cutD ds lo hi) := by
  unfold cutV cutD
  rw [r.length]
  exact (r.drop _).take _
theorem sd_lst {xs : List D} {lo hi : Option Int} : SlD K (rSlG K) (.lst xs) lo hi (· = .lst (cutD xs lo hi)) := fun G H v Q e r k => by
  obtain ⟨a, as, rfl, ha, hr⟩ := r.lst_inv
  refine .inl ⟨a, as, rfl, .inl (.inl (e.l ha)), fun p hp => ?_⟩
  have g := Gr.new (o := .lst (cutV as lo hi)) e hp
  exact k _ _ _ _ g (.lst upd_same ((hr.cut lo hi).ex g.ex)) rfl
theorem sd_tup {xs : List D} {lo hi : Option Int} : SlD K (rSlG K) (.tup xs) lo hi (· = .tup (cutD xs lo hi)) := fun G H v Q e r k => by
  obtain ⟨a, as, rfl, ha, hr⟩ := r.tup_inv
  refine .inr (.inl ⟨a, as, rfl, st_ex e ha, fun z => ?_, fun _ p hp => ?_⟩)
  · refine k _ _ _ _ (Gr.refl e) (.tup ha hr) ?_
    rw [hr.length] at z
    unfold cutD
    rw [z.1, z.2]
    simp
  · have g := Gr.new (o := .tup (cutV as lo hi)) e hp
    exact k _ _ _ _ g (.tup (.inl (.inl upd_same)) ((hr.cut lo hi).ex g.ex)) rfl
theorem sd_str {z : Str} {lo hi : Option Int} (hz : z.length ≤ sizeLine) : SlD K (rSlG K) (.str z) lo hi (· = .str (cutS z lo hi)) := fun G H v Q e r k => by
  cases r
  exact .inr (.inr ⟨z, rfl, hz, ret1 e (.str _) k⟩)
theorem cutD_nn {xs : List D} {a b : Nat} : cutD xs (some (a : Int)) (some (b : Int)) = (xs.take b).drop a := by
  unfold cutD
  rw [HT.sIx_nat, HT.sIx_nat]
  rw [List.drop_take]
  by_cases h : a ≤ xs.length
  · rw [Nat.min_eq_left h]
    by_cases hb : b ≤ xs.length
    · rw [Nat.min_eq_left hb]
    · rw [Nat.min_eq_right (by omega), List.take_of_length_le (by rw [List.length_drop]; omega), List.take_of_length_le (by rw [List.length_drop]; omega)]
  · rw [Nat.min_eq_right (show xs.length ≤ a by omega), List.drop_eq_nil_of_le (Nat.le_refl _), List.drop_eq_nil_of_le (show xs.length ≤ a by omega)]
    simp
theorem cutD_from {xs : List D} {a : Nat} : cutD xs (some (a : Int)) none = xs.drop a := by
  unfold cutD
  rw [HT.sIx_nat, HT.sIx_none]
  by_cases h : a ≤ xs.length
  · rw [Nat.min_eq_left h, List.take_of_length_le (by rw [List.length_drop]; omega)]
  · rw [List.drop_eq_nil_of_le (show xs.length ≤ a by omega), Nat.min_eq_right (by omega), List.drop_eq_nil_of_le (Nat.le_refl _)]
    simp
theorem cutD_to {xs : List D} {b : Nat} : cutD xs none (some (b : Int)) = xs.take b := by
  unfold cutD
  rw [HT.sIx_nat, HT.sIx_none]
  by_cases hb : b ≤ xs.length
  · rw [Nat.min_eq_left hb]; simp
  · rw [Nat.min_eq_right (by omega), List.take_of_length_le (show xs.length ≤ b by omega)]; simp
theorem cutD_all {xs : List D} : cutD xs none none = xs := by
  unfold cutD
  rw [HT.sIx_none, HT.sIx_none]
  simp
/-! in -/
def D.inB (x : V) (vs : List V) : Bool := inV x vs
theorem od_inT {neg : Bool} {x : D} {v : V} {ds : List D} {vs : List V} (hx : x.v = some v) (hv : ds.map D.v = vs.map some) (fx : flatV v = true) (fs : vs.all flatV = true) : OpD K (rInG K neg) x (.tup ds) (· = .bl (if neg then !inV v vs else inV v vs)) := fun G H v' w Q e r1 r2 k => by
  obtain ⟨a, as, rfl, ha, hr⟩ := r2.tup_inv
  have ev : v' = v := r1.sc hx
  have eq : ∀ {as : List V} {ds : List D} {vs : List V}, RpL K G as ds → ds.map D.v = vs.map some → as = vs := by
    intro as
    induction as with
    | nil =>
      intro ds vs r h
      cases r
      cases vs with
      | nil => rfl
      | cons _ _ => cases h
    | cons a as ih =>
      intro ds vs r h
      cases r with
      | cons ra rr =>
        cases vs with
        | nil => cases h
        | cons u us =>
          rw [List.map_cons, List.map_cons] at h
          injection h with h1 h2
          rw [ra.sc h1, ih rr h2]
  have e2 := eq hr hv
  subst e2
  subst ev
  exact .inl ⟨a, as, rfl, .inr (st_ex e ha), fx, fs, ret1 e (.bl _) k⟩
def D.isN : D → Bool
  | .non => true
  | _ => false
theorem od_isN {x : D} : OpD K rIsN x .non (· = .bl x.isN) := fun G H v w Q e r1 r2 k => by
  cases r2
  refine ⟨rfl, ?_⟩
  have : decide (v = .non) = x.isN := by cases r1 <;> simp [D.isN]
  rw [this]
  exact ret1 e (.bl _) k
theorem od_notN {x : D} : OpD K rNotN x .non (· = .bl (!x.isN)) := fun G H v w Q e r1 r2 k => by
  cases r2
  refine ⟨rfl, ?_⟩
  have : (!decide (v = .non)) = (!x.isN) := by cases r1 <;> simp [D.isN]
  rw [this]
  exact ret1 e (.bl _) k
/-! calls of built-ins -/
theorem cd_lenL {ds : List D} : CbD K (rLenC K) [.lst ds] (· = .int ds.length) := fun G H vs Q e r k => by
  cases r with
  | cons ra rr =>
    cases rr
    obtain ⟨a, as, rfl, ha, hr⟩ := ra.lst_inv
    exact ⟨_, as.length, rfl, .inl ⟨as, .inl (.inl (e.l ha)), rfl⟩, by rw [hr.length]; exact ret1 e (.int _) k⟩
theorem cd_lenT {ds : List D} : CbD K (rLenC K) [.tup ds] (· = .int ds.length) := fun G H vs Q e r k => by
  cases r with
  | cons ra rr =>
    cases rr
    obtain ⟨a, as, rfl, ha, hr⟩ := ra.tup_inv
    exact ⟨_, as.length, rfl, .inr ⟨as, st_ex e ha, rfl⟩, by rw [hr.length]; exact ret1 e (.int _) k⟩
theorem cd_lenS {z : Str} (hz : z.length ≤ sizeLine) : CbD K (rLenC K) [.str z] (· = .int z.length) := fun G H vs Q e r k => by
  cases r with
  | cons ra rr =>
    cases rr
    cases ra
    exact ⟨_, z.length, rfl, ⟨hz, rfl⟩, ret1 e (.int _) k⟩
theorem cd_intI {i : Int} : CbD K rInt1 [.int i] (· = .int i) := fun G H vs Q e r k => by
  cases r with
  | cons ra rr =>
    cases rr
    cases ra
    exact .inl ⟨i, rfl, ret1 e (.int _) k⟩
theorem cd_intB {b : Bool} : CbD K rInt1 [.bl b] (· = .int (if b then 1 else 0)) := fun G H vs Q e r k => by
  cases r with
  | cons ra rr =>
    cases rr
    cases ra
    exact .inr ⟨b, rfl, ret1 e (.int _) k⟩
theorem cd_abs {i : Int} : CbD K rAbs [.int i] (· = .int (if i < 0 then -i else i)) := fun G H vs Q e r k => by
  cases r with
  | cons ra rr =>
    cases rr
    cases ra
    exact ⟨i, rfl, ret1 e (.int _) k⟩
theorem cd_min {i j : Int} : CbD K rMin2 [.int i, .int j] (· = .int (if j < i then j else i)) := fun G H vs Q e r k => by
  cases r with
  | cons ra rr =>
    cases rr with
    | cons rb rr =>
      cases rr
      cases ra
      cases rb
      exact ⟨i, j, rfl, ret1 e (.int _) k⟩
theorem cd_max {i j : Int} : CbD K rMax2 [.int i, .int j] (· = .int (if j > i then j else i)) := fun G H vs Q e r k => by
  cases r with
  | cons ra rr =>
    cases rr with
    | cons rb rr =>
      cases rr
      cases ra
      cases rb
      exact ⟨i, j, rfl, ret1 e (.int _) k⟩
theorem cd_tupL {ds : List D} : CbD K (rTupO K) [.lst ds] (· = .tup ds) := fun G H vs Q e r k => by
  cases r with
  | cons ra rr =>
    cases rr
    obtain ⟨a, as, rfl, ha, hr⟩ := ra.lst_inv
    refine ⟨a, as, rfl, .inl ⟨.inl (.inl (e.l ha)), fun p hp => ?_⟩⟩
    have g := Gr.new (o := .tup as) e hp
    exact k _ _ _ _ g (.tup (.inl (.inl upd_same)) (hr.ex g.ex)) rfl
theorem cd_tupT {ds : List D} : CbD K (rTupO K) [.tup ds] (· = .tup ds) := fun G H vs Q e r k => by
  cases r with
  | cons ra rr =>
    cases rr
    obtain ⟨a, as, rfl, ha, hr⟩ := ra.tup_inv
    exact ⟨a, as, rfl, .inr ⟨st_ex e ha, ret1 e (.tup ha hr) k⟩⟩
theorem cd_lstL {ds : List D} : CbD K (rLstO K) [.lst ds] (· = .lst ds) := fun G H vs Q e r k => by
  cases r with
  | cons ra rr =>
    cases rr
    obtain ⟨a, as, rfl, ha, hr⟩ := ra.lst_inv
    refine ⟨a, as, rfl, .inl (.inl (.inl (e.l ha))), fun p hp => ?_⟩
    have g := Gr.new (o := .lst as) e hp
    exact k _ _ _ _ g (.lst upd_same (hr.ex g.ex)) rfl
theorem cd_lstT {ds : List D} : CbD K (rLstO K) [.tup ds] (· = .lst ds) := fun G H vs Q e r k => by
  cases r with
  | cons ra rr =>
    cases rr
    obtain ⟨a, as, rfl, ha, hr⟩ := ra.tup_inv
    refine ⟨a, as, rfl, .inr (st_ex e ha), fun p hp => ?_⟩
    have g := Gr.new (o := .lst as) e hp
    exact k _ _ _ _ g (.lst upd_same (hr.ex g.ex)) rfl
/-- xs.insert(i, e), xs a list of one's own -/
theorem xs_ins {W : WX} {Δ : En} {post : Out → Prop} {ta tb : TE} {i : Nat} {ds : List D} {j : Int} {d : D} (hi : Δ[i]? = some (Sl.own ds)) (hl : ds.length < sizeLine) (h1 : Ev K (WE W) ta Δ (· = .int j) fun _ => False) (h2 : Ev K (WE W) tb Δ (· = d) fun _ => False)
    (hj : 0 ≤ j) (hj2 : j < 2 ^ 63) (k : post (.nx (Δ.set i (.own (ds.take j.toNat ++ [d] ++ ds.drop j.toNat))))) : Xs K W (tDrop (tBM K "list" rIns (tVar i) (tCons ta (tCons tb tNil)))) Δ post := fun q G0 H0 G H σ T s k1 k2 k3 k4 k5 => by
  obtain ⟨p, vs, a1, a2, a3, a4, a5, a6⟩ := s.rs.own i ds hi
  refine ⟨_, a1, .inl ⟨rfl, vs, .inl (.inl a2)⟩, ?_⟩
  refine h1 q G0 H0 G H σ _ s (fun v d1 G1 H1 g1 r1 p1 => ?_) fun _ _ _ _ z => z.elim
  refine h2 q G0 H0 G1 H1 σ _ (s.go g1) (fun w d2 G2 H2 g2 r2 p2 => ?_) fun _ _ _ _ z => z.elim
  subst p1; subst p2
  cases r1
  have g := s.tr g1 g2
  have s2 := s.go g
  refine ⟨p, vs, j, w, rfl, rfl, g.kl a6 a2, by rw [a3.length]; exact hl, hj, hj2, ?_⟩
  have r := a3.ex g.ex
  exact k1 σ _ G2 _ g.ex (s2.change hi a1 (((r.take _).append (.cons r2 .nil)).append (r.drop _))) k
end
end Ts


namespace Ts
open PySem PySem.Spec PyProof.Rows L2

/-! ### a def that may be called by its name -/
structure Cal (P : Program) (w : World) (K : PySem.W.Frag) (mg : Str → Option Value) (base : Heap) (k : Nat) (x : Str) (sp : Sp) : Prop where
  ex : ∃ (f : Addr) (fd : FuncData) (ps : List Str), FnOk P w K mg base (L2.CX P w) k f fd ps sp ∧ mg x = some (.ref f) ∧ PySem.W.keepIn K (.ref f) = true ∧ Binds K fd ps []
section
variable {X : Cx} {k j : Nat} {x : Str} {sp : Sp} {E : L2.St → XK} {p pos : Pos} {e : Expr} {es : List Expr} {t : TA}
theorem pe_cal (c : Cal X.prog X.w X.K X.mg X.base k x sp) (hr : Room j X.A) (hk : k ≤ j) (hg : Gl X x) (hx : ∀ σ, PassesAt (L2.CX X.prog X.w) X σ (E σ)) (ha : PA X (e :: es) t)
    (hdb : (x == ("__debug__" : Str)) = false := by decide) (he : starEach (e :: es) X.env = (false, eval e X.env) :: starEach es X.env := by rfl) (hpl : (backTo pos (starEach es X.env)).any (·.1) = false := by rfl) :
    PE X (.Call (.Name x p) (e :: es) [] pos) (tCallS sp E t) := by
  obtain ⟨f, fd, ps, F, hm, kp, b⟩ := c.ex
  exact pe_callS F (hr.mono hk) hg hm kp b hx ha hdb he hpl
theorem passE {X : Cx} {σ : L2.St} : PassesAt (L2.CX X.prog X.w) X σ (E00 σ) := fun pins H s e s' I c => by
  obtain ⟨_, _, _, _, _, _, _, _, _, _, _, _, _, _, _, _, z⟩ := c
/-! constants of the module -/
theorem pe_globI {x : Str} {i : Int} {p : Pos} (hm : ∃ t, X.mg x = some (.int i t)) (hg : Gl X x := by rfl) (hd : (x == ("__debug__" : Str)) = false := by decide) : PE X (.Name x p) (tC (.int i)) := by
  obtain ⟨t, e⟩ := hm
  exact pe_glob hg e ⟨t, rfl⟩ hd
theorem pe_globS {x z : Str} {p : Pos} (hm : ∃ t, X.mg x = some (.str z t)) (hg : Gl X x := by rfl) (hd : (x == ("__debug__" : Str)) = false := by decide) : PE X (.Name x p) (tC (.str z)) := by
  obtain ⟨t, e⟩ := hm
  exact pe_glob hg e ⟨t, rfl⟩ hd
theorem pe_globR {x : Str} {a : Addr} {p : Pos} (hm : X.mg x = some (.ref a)) (hg : Gl X x := by rfl) (hd : (x == ("__debug__" : Str)) = false := by decide) : PE X (.Name x p) (tC (.ref a)) := pe_glob hg hm rfl hd
end

/-! ### x += y, x -= y, whatever the values -/
def rIAddG : TIp := fun x y H Q => ipI (fun i j => i + j) x y H Q ∨ ∃ i j : Str, x = .str i ∧ y = .str j ∧ i.length + j.length ≤ sizeLine ∧ Q (.str (i ++ j)) H
def rISubG : TIp := ipI fun i j => i - j
theorem ip_adds {X : Cx} : PIp X .Add (fun x y H Q => ∃ i j : Str, x = .str i ∧ y = .str j ∧ i.length + j.length ≤ sizeLine ∧ Q (.str (i ++ j)) H) := by
  intro pins s σ H x y v u Q I r1 r2 h
  obtain ⟨i, j, e1, e2, hz, q⟩ := h
  subst e1; subst e2
  obtain ⟨t, rfl⟩ := r1
  obtain ⟨t', rfl⟩ := r2
  exact PyProof.Rows.iadd_str (fun t' tk => ⟨.str _, H, I.tok _, ⟨_, rfl⟩, q⟩) hz
theorem ip_addG {X : Cx} : PIp X .Add rIAddG := PIp.or ip_add ip_adds
theorem ip_subG {X : Cx} : PIp X .Sub rISubG := ip_sub
section
variable {K : PySem.W.Frag}
theorem ip_i {f : Int → Int → Int} {i j : Int} : OpD K (ipI f) (.int i) (.int j) (· = .int (f i j)) := fun G H v w Q e r1 r2 k => by
  cases r1; cases r2
  exact ⟨i, j, rfl, rfl, ret1 e (.int _) k⟩
theorem iad {i j : Int} : OpD K rIAddG (.int i) (.int j) (· = .int (i + j)) := od_inl ip_i
theorem isu {i j : Int} : OpD K rISubG (.int i) (.int j) (· = .int (i - j)) := ip_i
theorem iads {i j : Str} (hz : i.length + j.length ≤ sizeLine) : OpD K rIAddG (.str i) (.str j) (· = .str (i ++ j)) := fun G H v w Q e r1 r2 k => by
  cases r1; cases r2
  exact .inr ⟨i, j, rfl, rfl, hz, ret1 e (.str _) k⟩
end

/-! ### len(range(a, b, c)) -/
def rLenRng3 : List V → Hp → VK → Prop := fun vs H Q => ∃ (i j c : Int) (n : Nat), vs = [.int i, .int j, .int c] ∧ RgC i j c n ∧ (n : Int) < 2 ^ 62 ∧ Q (.int n) H
theorem pe_lenRng3 {X : Cx} {a b c : Expr} {ta : TA} {p p2 pos pos2 : Pos} (hg : Gl X "len") (hm : X.mg "len" = none) (hg2 : Gl X "range") (hm2 : X.mg "range" = none) (ha : PA X [a, b, c] ta)
    (hs : starEach [a, b, c] X.env = (false, eval a X.env) :: starEach [b, c] X.env := by rfl) (hpl : (backTo pos2 (starEach [b, c] X.env)).any (·.1) = false := by rfl)
    (na : starEach [Expr.Call (.Name "range" p2) [a, b, c] [] pos2] X.env = (false, eval (.Call (.Name "range" p2) [a, b, c] [] pos2) X.env) :: starEach [] X.env := by rfl) :
    PE X (.Call (.Name "len" p) [.Call (.Name "range" p2) [a, b, c] [] pos2] [] pos) (tCB rLenRng3 ta) := by
  refine ⟨fun pins s σ H Q I h => ?_⟩
  refine Call_ (ld_blt I hg hm boot_len ?_)
  refine PyProof.Rows.callWith_builtin1 (PyProof.Rows.args_cons ?_ rfl) rfl rfl
  refine Call_ (ld_blt I hg2 hm2 boot_range (PyProof.Rows.callWith_type1 (thn (ha.run pos2 pins s σ H _ I h) fun us s1 ⟨vs, H1, I1, r1, q1⟩ => ?_) hs hpl))
  obtain ⟨i, j, k, n, e, ⟨c0, c1, c2, c3⟩, hn, q⟩ := q1
  subst e
  cases r1 with
  | cons r rr =>
    cases rr with
    | cons r' rr =>
      cases rr with
      | cons r'' rr =>
        cases rr
        obtain ⟨t, rfl⟩ := r
        obtain ⟨t', rfl⟩ := r'
        obtain ⟨t'', rfl⟩ := r''
        refine call_range_3 c0 ?_ (.inl (PyProof.noPylong_small c1))
        refine PyProof.Rows.args_nil ?_
        have I2 : Inv X pins σ H1 { s1 with heap := s1.heap.push { cls := .type "range", data := .fields #[.int i t, .int j t', .int k t''] } } := I1.kept (t' := s1.toks) fun b o e => Heap.get?_push_of_some _ e
        exact call_len_range (IsRange.new ..) c3 (by omega) ⟨.int n, H1, I2.tok _, ⟨_, rfl⟩, q⟩
theorem cd_lenRng3 {K : PySem.W.Frag} {i j c : Int} {n : Nat} (h : RgC i j c n) (hn : (n : Int) < 2 ^ 62) : CbD K rLenRng3 [.int i, .int j, .int c] (· = .int n) := fun G H vs Q e r k => by
  cases r with
  | cons ra rr =>
    cases rr with
    | cons rb rr =>
      cases rr with
      | cons rc rr =>
        cases rr
        cases ra
        cases rb
        cases rc
        exact ⟨i, j, c, n, rfl, h, hn, ret1 e (.int _) k⟩

/-! ### zip of three, each a list or a tuple -/
def ItAt (b : Bool) (h : Heap) (it a : Addr) (i : Nat) : Prop := cond b (h.IsTupleIter it a i) (h.IsListIter it a i)
def IsSq (b : Bool) (h : Heap) (a : Addr) (its : Array Value) : Prop := cond b (h.IsTuple a its) (h.IsList a its)
def SqB (K : PySem.W.Frag) (b : Bool) (H : Hp) (a : Addr) (xs : List V) : Prop := cond b (SqT K H a xs) (SqL K H a xs)
theorem ItAt.at_ {b : Bool} {h h' : Heap} {it a : Addr} {i : Nat} (x : ItAt b h it a i) (k : ∀ o, h.get? it = some o → h'.get? it = some o) : ItAt b h' it a i := by
  cases b with
  | true => exact Heap.IsTupleIter.at (show h.IsTupleIter it a i from x) k
  | false => exact Heap.IsListIter.at (show h.IsListIter it a i from x) k
theorem ItAt.obj {b : Bool} {h : Heap} {it a : Addr} {i : Nat} (x : ItAt b h it a i) : ∃ o, h.get? it = some o ∧ ∀ v, o.data ≠ .cell v := by
  cases b with
  | true =>
    obtain ⟨o1, e1, _, d1⟩ := (show h.IsTupleIter it a i from x)
    exact ⟨o1, e1, fun v q => by rw [d1] at q; cases q⟩
  | false =>
    obtain ⟨o1, e1, _, d1⟩ := (show h.IsListIter it a i from x)
    exact ⟨o1, e1, fun v q => by rw [d1] at q; cases q⟩
theorem draws_b {P : Program} {w : World} {A : Around} (hh : A.handled = none) (b : Bool) (it a : Addr) (hne : a ≠ it) (items : Array Value) :
    Draws P w A it [it, a] items.size (fun i v => items[i]? = some v) (fun i h => ItAt b h it a i ∧ IsSq b h a items) := by
  cases b with
  | true => exact Draws.tuple hh it a hne items
  | false => exact Draws.list hh it a hne items
def itObj (b : Bool) (a : Addr) : Obj := cond b { cls := .type "tuple_iterator", data := .fields #[.ref a, .int 0 0] } { cls := .type "list_iterator", data := .fields #[.ref a, .int 0 0] }
theorem begins_b (b : Bool) (a : Addr) (items : Array Value) : Begins (.ref a) (itObj b a) fun h => IsSq b h a items := by
  cases b with
  | true => exact begins_tuple a items
  | false => exact begins_list a items
theorem ItAt.new {b : Bool} {h : Heap} {it a : Addr} (e : h.get? it = some (itObj b a)) : ItAt b h it a 0 := by
  cases b with
  | true => exact ⟨_, e, rfl, rfl⟩
  | false => exact ⟨_, e, rfl, rfl⟩
section
variable {X : Cx} {pins : List (Addr × Obj)} {σ : L2.St} {H : Hp} {s : Shared} {a : Addr} {xs ys : List V}
theorem inv_sq (I : Inv X pins σ H s) {b : Bool} (h : SqB X.K b H a xs) : ∃ its : List Value, Vals xs its ∧ IsSq b s.heap a its.toArray ∧ a < s.heap.objs.size := by
  cases b with
  | true =>
    obtain ⟨its, rv, p, _⟩ := I.tuple (show SqT X.K H a xs from h)
    obtain ⟨o1, ho1, _⟩ := id p
    exact ⟨its, rv, show s.heap.IsTuple a its.toArray from p, Heap.lt_size ho1⟩
  | false =>
    obtain ⟨its, rv, p, _⟩ := I.list (show SqL X.K H a xs from h)
    exact ⟨its, rv, p.isList, p.lt⟩
theorem inv_sqi (I : Inv X pins σ H s) {b : Bool} (h : SqB X.K b H a xs) (h' : SqB X.K b H a ys) : xs = ys := by
  cases b with
  | true => exact I.tuple_inj (show SqT X.K H a xs from h) h'
  | false => exact I.list_inj (show SqL X.K H a xs from h) h'
end
def It3 (K : PySem.W.Frag) (b1 b2 b3 : Bool) (a b c : Addr) : It :=
  ⟨fun i H => ∃ (xs ys zs : List V) (x y z : V), SqB K b1 H a xs ∧ SqB K b2 H b ys ∧ SqB K b3 H c zs ∧ xs[i]? = some x ∧ ys[i]? = some y ∧ zs[i]? = some z,
    fun i H v H' => ∃ T x y z, v = .ref T ∧ H T = none ∧ H' = upd H T (.tup [x, y, z]) ∧ (∀ xs, SqB K b1 H a xs → xs[i]? = some x) ∧ (∀ ys, SqB K b2 H b ys → ys[i]? = some y) ∧ ∀ zs, SqB K b3 H c zs → zs[i]? = some z,
    fun i H => ∃ xs ys zs : List V, SqB K b1 H a xs ∧ SqB K b2 H b ys ∧ SqB K b3 H c zs ∧ i ≤ xs.length ∧ i ≤ ys.length ∧ i ≤ zs.length ∧ (i = xs.length ∨ i = ys.length ∨ i = zs.length)⟩
theorem turn_zip3 {P : Program} {w : World} {K : PySem.W.Frag} {elts : List Expr} {kk : Nat} {tpos : Pos} {b1 b2 b3 : Bool} {a b c : Addr} {N : Nat} (ha : a < N) (hb : b < N) (hc' : c < N) :
    Turn P w K (.Tuple elts kk tpos) (It3 K b1 b2 b3 a b c) [N + 5, N + 3, N + 4, N, N + 1, N + 2] (N + 5) (fun i h => IsZip h (N + 5) (N + 3) (N + 4) .none ∧ IsTupOf3 h (N + 3) (.ref N) (.ref (N + 1)) (.ref (N + 2)) ∧ (∃ x y z, IsTupOf3 h (N + 4) x y z) ∧ ItAt b1 h N a i ∧ ItAt b2 h (N + 1) b i ∧ ItAt b3 h (N + 2) c i) := by
  have S := zip_sep3 (N := N) (fp1 := [a]) (fp2 := [b]) (fp3 := [c]) (by simpa using ha) (by simpa using hb) (by simpa using hc')
  refine ⟨by simp, fun i h st d hd => ?_, fun i h h' st k => ?_, ?_, ?_, fun A i s Q E st h => wpAny_pyIter_zip st.1 h⟩
  · obtain ⟨hz, hTI, ⟨x, y, z, hTO⟩, h1, h2, h3⟩ := st
    have e' : d = N + 5 ∨ d = N + 3 ∨ d = N + 4 ∨ d = N ∨ d = N + 1 ∨ d = N + 2 := by simpa using hd
    rcases e' with q | q | q | q | q | q
    · rw [q]; exact ⟨_, hz, fun v q => nomatch q⟩
    · rw [q]; exact ⟨_, hTI, fun v q => nomatch q⟩
    · rw [q]; exact ⟨_, hTO, fun v q => nomatch q⟩
    · rw [q]; exact h1.obj
    · rw [q]; exact h2.obj
    · rw [q]; exact h3.obj
  · obtain ⟨hz, hTI, ⟨x, y, z, hTO⟩, h1, h2, h3⟩ := st
    exact ⟨k _ (by simp) _ hz, k _ (by simp) _ hTI, ⟨x, y, z, k _ (by simp) _ hTO⟩, h1.at_ fun o q => k _ (by simp) o q, h2.at_ fun o q => k _ (by simp) o q, h3.at_ fun o q => k _ (by simp) o q⟩
  · intro X hP hw hK hc i pins s σ H E I hf st hg
    subst hP hw hK
    obtain ⟨hz, hTI, ⟨x0, y0, z0, hTO⟩, h1, h2, h3⟩ := st
    obtain ⟨xs, ys, zs, x, y, z, hqx, hqy, hqz, hx, hy, hz'⟩ := hg
    obtain ⟨its, rv, p, _⟩ := inv_sq I hqx
    obtain ⟨its2, rv2, p2, _⟩ := inv_sq I hqy
    obtain ⟨its3, rv3, p3, _⟩ := inv_sq I hqz
    obtain ⟨u, hu, ru⟩ := rv.get hx
    obtain ⟨u2, hu2, ru2⟩ := rv2.get hy
    obtain ⟨u3, hu3, ru3⟩ := rv3.get hz'
    have hh : X.A.in1.handled = none := I.ok.hd hc
    have D1 := draws_b (P := X.prog) (w := X.w) hh b1 N a (Nat.ne_of_lt ha) its.toArray
    have D2 := draws_b (P := X.prog) (w := X.w) hh b2 (N + 1) b (Nat.ne_of_lt (Nat.lt_succ_of_lt hb)) its2.toArray
    have D3 := draws_b (P := X.prog) (w := X.w) hh b3 (N + 2) c (Nat.ne_of_lt (Nat.lt_succ_of_lt (Nat.lt_succ_of_lt hc'))) its3.toArray
    have hzl : N + 5 < s.heap.objs.size := Heap.lt_size hz
    refine wpAny_pyNext_zipD3_item S D1 D2 D3 hz hTI hTO ⟨h1, p⟩ ⟨h2, p2⟩ ⟨h3, p3⟩ ?_ ?_ ?_ fun x1 x2 x3 h' tk y1 y2 y3 hz1 hTO1 s1 s2 s3 hT hsz hk => ?_
    · simpa using (List.getElem?_eq_some_iff.mp hu).1
    · simpa using (List.getElem?_eq_some_iff.mp hu2).1
    · simpa using (List.getElem?_eq_some_iff.mp hu3).1
    have ex1 : x1 = u := by
      have e : its[i]? = some x1 := by simpa using y1
      rw [hu] at e
      exact (Option.some.inj e).symm
    have ex2 : x2 = u2 := by
      have e : its2[i]? = some x2 := by simpa using y2
      rw [hu2] at e
      exact (Option.some.inj e).symm
    have ex3 : x3 = u3 := by
      have e : its3[i]? = some x3 := by simpa using y3
      rw [hu3] at e
      exact (Option.some.inj e).symm
    subst ex1 ex2 ex3
    refine ⟨_, rfl, wpAny_letOwnedTupleGo_zip (s := { s with heap := h', toks := tk }) hz1 fun h'' z'' sb => ?_⟩
    have hT2 : h''.get? s.heap.objs.size = some { cls := .type "tuple", data := .seq #[x1, x2, x3] } := (sb.2 _ (Nat.ne_of_gt hzl)).trans hT
    have new : ObjOk X.prog X.w (upd H s.heap.objs.size (.tup [x, y, z])) h'' s.heap.objs.size (.tup [x, y, z]) :=
      ⟨by show 3 ≤ sizeLine; exact szl, [x1, x2, x3], .cons ru (.cons ru2 (.cons ru3 .nil)), ⟨_, hT2, rfl, _, rfl⟩⟩
    have I1 : Inv X pins σ (upd H s.heap.objs.size (.tup [x, y, z])) { s with heap := h'', toks := tk } :=
      I.turnedNew (t' := tk) (ch := [N + 5, N + 3, N + 4, N, N + 1, N + 2]) (fun c o hb q => (sb.2 c (fun q' => hb (by simp [q']))).trans (hk c o (fun q' => hb (by simp [q'])) (fun q' => hb (by simp [q'])) (fun q' => hb (by simp [q'])) (fun q' => hb (by simp [q'])) (fun q' => hb (by simp [q'])) q)) hf (Nat.le_refl _) new
    have ne : ∀ {d : Addr}, d ≠ N + 5 → ∀ o, h'.get? d = some o → h''.get? d = some o := fun hd o q => (sb.2 _ hd).trans q
    refine ⟨.ref s.heap.objs.size, _, I1, rfl, ⟨_, x, y, z, rfl, I.hok.fresh (Nat.le_refl _), rfl, fun l hl => by rw [inv_sqi I hl hqx]; exact hx, fun l hl => by rw [inv_sqi I hl hqy]; exact hy, fun l hl => by rw [inv_sqi I hl hqz]; exact hz'⟩, ⟨z'', ?_, ⟨x1, x2, x3, ?_⟩, ?_, ?_, ?_⟩, fun c hcm => ?_⟩
    · exact ne S.TIz _ (hk _ _ S.TIz S.TITO S.TIi1 S.TIi2 S.TIi3 hTI)
    · exact ne S.TOz _ hTO1
    · exact s1.1.at_ (ne S.zi1.symm)
    · exact s2.1.at_ (ne S.zi2.symm)
    · exact s3.1.at_ (ne S.zi3.symm)
    · have hlt : c < s.heap.objs.size := by
        have e' : c = N + 5 ∨ c = N + 3 ∨ c = N + 4 ∨ c = N ∨ c = N + 1 ∨ c = N + 2 := by simpa using hcm
        have hzl' : (N + 5 : Nat) < s.heap.objs.size := hzl
        rcases e' with q | q | q | q | q | q <;> rw [q] <;> first | exact hzl' | (show (_ : Nat) < s.heap.objs.size; omega)
      rw [upd_ne (Nat.ne_of_lt hlt)]
      exact (hf c hcm).1
  · intro X hP hw hK hc i pins s σ H E I hf st hg
    subst hP hw hK
    obtain ⟨hz, hTI, ⟨x0, y0, z0, hTO⟩, h1, h2, h3⟩ := st
    obtain ⟨xs, ys, zs, hqx, hqy, hqz, l1, l2, l3, hend⟩ := hg
    obtain ⟨its, rv, p, _⟩ := inv_sq I hqx
    obtain ⟨its2, rv2, p2, _⟩ := inv_sq I hqy
    obtain ⟨its3, rv3, p3, _⟩ := inv_sq I hqz
    have hh : X.A.in1.handled = none := I.ok.hd hc
    have D1 := draws_b (P := X.prog) (w := X.w) hh b1 N a (Nat.ne_of_lt ha) its.toArray
    have D2 := draws_b (P := X.prog) (w := X.w) hh b2 (N + 1) b (Nat.ne_of_lt (Nat.lt_succ_of_lt hb)) its2.toArray
    have D3 := draws_b (P := X.prog) (w := X.w) hh b3 (N + 2) c (Nat.ne_of_lt (Nat.lt_succ_of_lt (Nat.lt_succ_of_lt hc'))) its3.toArray
    have e1 := rv.length
    have e2 := rv2.length
    have e3 := rv3.length
    refine wpAny_pyNext_zipD3_end S D1 D2 D3 hz hTI hTO ⟨h1, p⟩ ⟨h2, p2⟩ ⟨h3, p3⟩ ?_ ?_ ?_ ?_ fun h' tk hk => ⟨rfl, I.turnedL (t' := tk) (ch := [N + 5, N + 3, N + 4, N, N + 1, N + 2]) (fun c o hb q =>
      hk c o (fun q' => hb (by simp [q'])) (fun q' => hb (by simp [q'])) (fun q' => hb (by simp [q'])) (fun q' => hb (by simp [q'])) (fun q' => hb (by simp [q'])) q) hf⟩
    · simp only [List.size_toArray]; omega
    · simp only [List.size_toArray]; omega
    · simp only [List.size_toArray]; omega
    · simp only [List.size_toArray]; omega
def iZip3 (K : PySem.W.Frag) (ta : TA) : TI := fun σ H R => ta σ H fun vs H1 => ∃ b1 b2 b3 a b c xs ys zs, vs = [.ref a, .ref b, .ref c] ∧ SqB K b1 H1 a xs ∧ SqB K b2 H1 b ys ∧ SqB K b3 H1 c zs ∧ R (It3 K b1 b2 b3 a b c) H1
theorem pi_zip3 {X : Cx} {e e2 e3 : Expr} {ta : TA} {p pos tpos : Pos} {elts : List Expr} {kk : Nat} (hg : Gl X "zip") (hm : X.mg "zip" = none) (ha : PA X [e, e2, e3] ta)
    (hs : starEach [e, e2, e3] X.env = (false, eval e X.env) :: starEach [e2, e3] X.env := by rfl) (hpl : (backTo pos (starEach [e2, e3] X.env)).any (·.1) = false := by rfl) :
    PI X (.Tuple elts kk tpos) (.Call (.Name "zip" p) [e, e2, e3] [] pos) (iZip3 X.K ta) := by
  refine ⟨fun pins s σ H R I h => ?_⟩
  refine Call_ (ld_blt I hg hm PyProof.Rows.boot_zip (PyProof.Rows.callWith_type1 (thn (ha.run pos pins s σ H _ I h) fun us s1 ⟨vs, H1, I1, r1, q1⟩ => ?_) hs hpl))
  obtain ⟨b1, b2, b3, a, b, c, xs, ys, zs, ex, hqx, hqy, hqz, q⟩ := q1
  subst ex
  cases r1 with
  | cons r rr =>
    cases rr with
    | cons r' rr =>
      cases rr with
      | cons r'' rr =>
        cases rr
        cases r
        cases r'
        cases r''
        obtain ⟨its, rv, p1, la⟩ := inv_sq I1 hqx
        obtain ⟨its2, rv2, p2, lb⟩ := inv_sq I1 hqy
        obtain ⟨its3, rv3, p3, lc⟩ := inv_sq I1 hqz
        refine zip_begins3 (begins_b b1 a its.toArray) (begins_b b2 b its2.toArray) (begins_b b3 c its3.toArray) p1 p2 p3 fun h' hz hTI hTO g1 g2 g3 hsz hk => wpAny_pyIter_zip hz ?_
        have I2 : Inv X pins σ H1 { s1 with heap := h' } := I1.kept (t' := s1.toks) hk
        refine ⟨s1.heap.objs.size + 5, _, _, _, H1, rfl, I2, turn_zip3 la lb lc, ⟨hz, hTI, ⟨_, _, _, hTO⟩, .new g1, .new g2, .new g3⟩, fun d hd => ?_, q⟩
        have hle : s1.heap.objs.size ≤ d := by
          have e' : d = s1.heap.objs.size + 5 ∨ d = s1.heap.objs.size + 3 ∨ d = s1.heap.objs.size + 4 ∨ d = s1.heap.objs.size ∨ d = s1.heap.objs.size + 1 ∨ d = s1.heap.objs.size + 2 := by simpa using hd
          rcases e' with q | q | q | q | q | q <;> rw [q] <;> first | exact Nat.le_refl _ | exact Nat.le_add_right _ _
        exact I1.fpOk hle (I1.hok.fresh hle)
section
variable {K : PySem.W.Frag} {E : L2.St → XK} {Δ : En} {X : Addr → Prop} {G : Hp}
/-- the items of a list or a tuple -/
def D.items : D → Option (List D)
  | .lst xs => some xs
  | .tup xs => some xs
  | _ => none
theorem Rp.sq {v : V} {d : D} {ds : List D} (r : Rp K G v d) (h : d.items = some ds) : ∃ b a xs, v = .ref a ∧ (∀ {H}, Exx G H → SqB K b H a xs) ∧ RpL K G xs ds := by
  cases r with
  | lst h1 h2 => cases h; exact ⟨false, _, _, rfl, fun e => .inl (.inl (e.l h1)), h2⟩
  | tup h1 h2 => cases h; exact ⟨true, _, _, rfl, fun e => st_ex e h1, h2⟩
  | non => cases h
  | bl b => cases h
  | int i => cases h
  | str x => cases h
  | obj _ _ => cases h
def zip3D : List D → List D → List D → List D
  | a :: as, b :: bs, c :: cs => .tup [a, b, c] :: zip3D as bs cs
  | _, _, _ => []
theorem zip3D_len : ∀ as bs cs : List D, (zip3D as bs cs).length = min as.length (min bs.length cs.length)
  | [], _, _ => by simp [zip3D]
  | _ :: _, [], _ => by simp [zip3D]
  | _ :: _, _ :: _, [] => by simp [zip3D]
  | _ :: as, _ :: bs, _ :: cs => by
    simp only [zip3D, List.length_cons]
    rw [zip3D_len as bs cs]
    omega
theorem zip3D_get : ∀ {as bs cs : List D} {i : Nat} {a b c : D}, as[i]? = some a → bs[i]? = some b → cs[i]? = some c → (zip3D as bs cs)[i]? = some (.tup [a, b, c])
  | [], _, _, i, _, _, _, h, _, _ => by simp at h
  | _ :: _, [], _, i, _, _, _, _, h, _ => by simp at h
  | _ :: _, _ :: _, [], i, _, _, _, _, _, h => by simp at h
  | _ :: as, _ :: bs, _ :: cs, 0, _, _, _, h1, h2, h3 => by
    simp at h1 h2 h3
    subst h1 h2 h3
    rfl
  | _ :: as, _ :: bs, _ :: cs, i + 1, _, _, _, h1, h2, h3 => by
    simp only [List.getElem?_cons_succ, zip3D] at h1 h2 h3 ⊢
    exact zip3D_get h1 h2 h3
theorem zip3D_of {as bs cs : List D} {i : Nat} {e : D} (h : (zip3D as bs cs)[i]? = some e) : ∃ a b c, as[i]? = some a ∧ bs[i]? = some b ∧ cs[i]? = some c ∧ e = .tup [a, b, c] := by
  have h1 := (List.getElem?_eq_some_iff.mp h).1
  rw [zip3D_len] at h1
  have ha : as[i]? = some as[i] := List.getElem?_eq_getElem (by omega)
  have hb : bs[i]? = some bs[i] := List.getElem?_eq_getElem (by omega)
  have hc : cs[i]? = some cs[i] := List.getElem?_eq_getElem (by omega)
  refine ⟨_, _, _, ha, hb, hc, ?_⟩
  rw [zip3D_get ha hb hc] at h
  exact (Option.some.inj h).symm
theorem ew_zip3 {ta : TA} {da db dc : D} {as bs cs : List D} (h : Ea K E ta Δ (· = [da, db, dc]) X) (ha : da.items = some as) (hb : db.items = some bs) (hc : dc.items = some cs) : Ew K E (iZip3 K ta) Δ (· = zip3D as bs cs) X := fun q G0 H0 G H σ Rj s k kx =>
  h q G0 H0 G H σ _ s (fun vs ds G1 H1 g1 r1 p1 => by
    subst p1
    cases r1 with
    | cons ra rr =>
      cases rr with
      | cons rb rr =>
        cases rr with
        | cons rc rr =>
          cases rr
          obtain ⟨b1, a, xs, rfl, qa, la⟩ := ra.sq ha
          obtain ⟨b2, b, ys, rfl, qb, lb⟩ := rb.sq hb
          obtain ⟨b3, c, zs, rfl, qc, lc⟩ := rc.sq hc
          refine ⟨b1, b2, b3, a, b, c, xs, ys, zs, rfl, qa g1.sub, qb g1.sub, qc g1.sub, k (It3 K b1 b2 b3 a b c) (zip3D as bs cs) G1 H1 g1 (fun G3 H3 e2 e3 => ?_) rfl⟩
          have q1 := qa (e2.trans e3)
          have q2 := qb (e2.trans e3)
          have q3 := qc (e2.trans e3)
          have l1 := la.length
          have l2 := lb.length
          have l3 := lc.length
          rw [zip3D_len]
          refine ⟨fun i hi => ⟨⟨xs, ys, zs, xs[i]'(by omega), ys[i]'(by omega), zs[i]'(by omega), q1, q2, q3, by simp [show i < xs.length by omega], by simp [show i < ys.length by omega], by simp [show i < zs.length by omega]⟩, fun x H4 y => ?_⟩, ⟨xs, ys, zs, q1, q2, q3, by omega, by omega, by omega, by omega⟩⟩
          obtain ⟨T, z1, z2, z3, rfl, hT, rfl, y1, y2, y3⟩ := y
          obtain ⟨d1, hd1, rd1⟩ := la.getV (y1 xs q1)
          obtain ⟨d2, hd2, rd2⟩ := lb.getV (y2 ys q2)
          obtain ⟨d3, hd3, rd3⟩ := lc.getV (y3 zs q3)
          have g := Gr.new (o := .tup [z1, z2, z3]) e3 hT
          have e' := e2.trans g.ex
          exact ⟨_, _, g, zip3D_get hd1 hd2 hd3, .tup (.inl (.inl upd_same)) (.cons (rd1.ex e') (.cons (rd2.ex e') (.cons (rd3.ex e') .nil)))⟩) kx

/-! ### chains, reversals -/
theorem ev_chain {r r' : R2} {ta tb tc : TE} {x y z : D} {b : Bool} {R : D → Prop} (ha : Ev K E ta Δ (· = x) X) (hb : Ev K E tb Δ (· = y) X) (ho : OpD K r x y (· = .bl b)) (hc : b = true → Ev K E tc Δ (· = z) X) (ho' : b = true → OpD K r' y z R) (hf : b = false → R (.bl false)) :
    Ev K E (tChain r r' ta tb tc) Δ R X := fun q G0 H0 G H σ Q s k kx =>
  ha q G0 H0 G H σ _ s (fun v d1 G1 H1 g1 r1 p1 => hb q G0 H0 G1 H1 σ _ (s.go g1) (fun u d2 G2 H2 g2 r2 p2 => by
    subst p1; subst p2
    refine ho G2 H2 v u _ g2.sub (r1.ex g2.ex) r2 fun w d3 G3 H3 g3 r3 p3 => ?_
    subst p3
    cases r3
    have g123 := s.tr (s.tr g1 g2) g3.any
    refine ⟨b, rfl, ?_⟩
    cases b with
    | false => exact iteF (k _ _ G3 H3 g123 (.bl false) (hf rfl))
    | true =>
      refine iteT (hc rfl q G0 H0 G3 H3 σ _ (s.go g123) (fun w2 d4 G4 H4 g4 r4 p4 => ?_) fun C G' H' g x => kx C G' H' (s.tr g123 g) x)
      subst p4
      exact ho' rfl G4 H4 u w2 Q g4.sub (r2.ex (g3.ex.trans g4.ex)) r4 fun u5 d5 G5 H5 g5 r5 p5 => k u5 d5 G5 H5 (s.tr (s.tr g123 g4) g5.any) r5 p5) fun C G' H' g x => kx C G' H' (s.tr g1 g) x) kx
theorem ev1_revL {te : TE} {ds : List D} (h : Ev K E te Δ (· = .lst ds) X) : Ev K E (tRevL K te) Δ (· = .lst ds.reverse) X := fun q G0 H0 G H σ Q s k kx =>
  h q G0 H0 G H σ _ s (fun v d G1 H1 g1 r1 p1 => by
    subst p1
    obtain ⟨a, xs, rfl, ha, hr⟩ := r1.lst_inv
    refine ⟨a, xs, rfl, .inl (.inl (g1.sub.l ha)), fun p hp => ?_⟩
    have g := Gr.new (o := .lst xs.reverse) g1.sub hp
    exact k _ _ _ _ (s.tr g1 g.any) (.lst upd_same (hr.reverse.ex g.ex)) rfl) kx
end
end Ts


/-! What the laws share: the dice, the rounds, what is told of a fault, the law's own frame. -/
namespace Ts
open PySem PySem.Spec PyProof.Rows L2

section
variable {K : PySem.W.Frag} {E : L2.St → XK} {W : WX} {Δ : En} {T : Tb} {te ta tb : TE} {X : Addr → Prop} {post : Out → Prop} {R : D → Prop}
abbrev IntD : D → Prop := fun d => ∃ z : Int, d = .int z
theorem OpD.imp {r : R2} {x y : D} {R R' : D → Prop} (h : OpD K r x y R) (hr : ∀ d, R d → R' d) : OpD K r x y R' := fun G H v w Q e r1 r2 k => h G H v w Q e r1 r2 fun u d G' H' g rd p => k u d G' H' g rd (hr d p)
theorem CbD.imp {r : List V → Hp → VK → Prop} {xs : List D} {R R' : D → Prop} (h : CbD K r xs R) (hr : ∀ d, R d → R' d) : CbD K r xs R' := fun G H vs Q e r1 k => h G H vs Q e r1 fun u d G' H' g rd p => k u d G' H' g rd (hr d p)
theorem ev_ix_dice {i : Nat} {j : Int} (hi : Δ[i]? = some (Sl.dice T)) (hj : j = 0 ∨ j = 1 ∨ j = 2) : Ev K E (tOp (rIx K) (tVar i) (tC (.int j))) Δ IntD X := fun q G0 H0 G H σ Q s k kx => by
  obtain ⟨a, rfl, ha⟩ := s.rs.dice i T hi
  obtain ⟨⟨x, y, z, hd⟩, _⟩ := s.dq a T rfl
  have : ∃ u : Int, atI [V.int x, .int y, .int z] j = some (.int u) := by
    rcases hj with rfl | rfl | rfl
    · exact ⟨x, rfl⟩
    · exact ⟨y, rfl⟩
    · exact ⟨z, rfl⟩
  obtain ⟨u, hu⟩ := this
  exact ⟨_, ha, .inl ⟨a, _, j, .int u, rfl, rfl, .inl (.inl hd), hu, k _ _ G H s.rf (.int u) ⟨u, rfl⟩⟩⟩
theorem xs_setD {i : Nat} {j : Int} (hi : Δ[i]? = some (Sl.dice T)) (hj : j = 0 ∨ j = 1 ∨ j = 2) (h : Ev K (WE W) te Δ IntD X) (hx : ∀ C, X C → post (.ex C Δ)) (k : post (.nx Δ)) : Xs K W (tAsg te (gSub (tVar i) (tC (.int j)) rSetL)) Δ post := fun q G0 H0 G H σ Te s k1 k2 k3 k4 k5 =>
  h q G0 H0 G H σ _ s (fun v d G1 H1 g1 r1 p1 => by
    obtain ⟨w, rfl⟩ := p1
    cases r1
    have s1 := s.go g1
    obtain ⟨a, e, ha⟩ := s1.rs.dice i T hi
    subst e
    obtain ⟨n1, ⟨x, y, z, hd⟩, tb⟩ := s1.rs.gq a T rfl
    have key : ∃ (jn : Nat) (x' y' z' : Int), ixN 3 j = some jn ∧ ([V.int x, .int y, .int z]).set jn (.int w) = [.int x', .int y', .int z'] := by
      rcases hj with rfl | rfl | rfl
      · exact ⟨0, w, y, z, rfl, rfl⟩
      · exact ⟨1, x, w, z, rfl, rfl⟩
      · exact ⟨2, x, y, w, rfl, rfl⟩
    obtain ⟨jn, x', y', z', e1, e2⟩ := key
    refine ⟨.ref a, ha, a, _, j, jn, rfl, rfl, hd, e1, ?_⟩
    rw [e2]
    have g : Gr (some (a, T)) G1 H1 G1 (upd H1 a (.lst [.int x', .int y', .int z'])) := by
      refine ⟨Exx.refl _, fun _ _ e => .inl e, fun b o e nt => ?_, fun b o c e nt => ?_, fun c => (nomatch c), fun b T' c t => ?_⟩
      · have : b ≠ a := fun z => by
          rw [z] at e
          obtain ⟨ps, h⟩ := n1 _ e
          exact nt ps h
        rw [upd_ne this]; exact s1.sub b o e nt
      · have : b ≠ a := fun z => by
          rw [z] at c
          exact c T rfl
        rw [upd_ne this]; exact e
      · cases c
        exact ⟨⟨x', y', z', upd_same⟩, Tbd.chg hd _ t.2⟩
    exact k1 σ Δ G1 _ g1.ex (s1.go g) k) fun C G1 H1 g x => k5 C σ Δ G1 H1 g.ex (s.go g) (hx C x)
theorem ev_intc (h : Ev K E te Δ IntD X) : Ev K E (tCB rInt1 (tCons te tNil)) Δ IntD X :=
  ev_cb (Rs := fun ds => ∃ z : Int, ds = [.int z]) (ea_cons h (fun _ _ => ea_nil) fun d ds ⟨z, e1⟩ e2 => ⟨z, by rw [e1, e2]⟩) fun ds ⟨z, e⟩ => by subst e; exact cd_intI.imp fun d e => ⟨z, e⟩
theorem ev_iop {r : R2} {n : Int} (ha : Ev K E ta Δ IntD X) (hb : Ev K E tb Δ (· = .int n) X) (ho : ∀ i : Int, OpD K r (.int i) (.int n) R) : Ev K E (tOp r ta tb) Δ R X := ev_op ha hb fun x y ⟨z, e1⟩ e2 => by subst e1; subst e2; exact ho z
theorem et_iop {r : R2} {n : Int} (ha : Ev K E ta Δ IntD X) (hb : Ev K E tb Δ (· = .int n) X) (ho : ∀ i : Int, ∃ b, OpD K r (.int i) (.int n) (· = .bl b)) : Et K E (tTest (tOp r ta tb)) Δ (fun _ => True) X :=
  et_val (ev_iop ha hb fun i => by
    obtain ⟨b, h⟩ := ho i
    exact h.imp fun d e => ⟨b, e, trivial⟩)
/-! ### _law_roll -/
def t_roll (K : PySem.W.Frag) (W : WX) : TS :=
  (tSeq (tIfS (tOr (tTest (tOp (rEqG K) (tOp (rIx K) (tVar 0) (tC (.int 2))) (tC (.int 2)))) (tAnd (tTest (tOp (rEqG K) (tOp (rIx K) (tVar 0) (tC (.int 2))) (tC (.int 1)))) (tTest (tOp rGtG (tOp (rIx K) (tVar 0) (tC (.int 0))) (tC (.int 0)))))) (tSeq (tAsg (tOp rModG (tCB rInt1 (tCons (tOp (rIx K) (tVar 0) (tC (.int 0))) tNil)) (tVar 1)) (gName 2))
  (tSeq (tAsg (tOp rDivG (tOp (rIx K) (tVar 0) (tC (.int 0))) (tVar 1)) (gSub (tVar 0) (tC (.int 0)) rSetL))
  (tRet (tVar 2)))) tNext)
  (tSeq (tAsg (tC (.int 0)) (gSub (tVar 0) (tC (.int 2)) rSetL))
  (tSeq (tAsg (tOp rModG (tCB rInt1 (tCons (tOp (rAddG K) (tOp (rAddG K) (tOp rMulG (tOp (rIx K) (tVar 0) (tC (.int 0))) (tC (.int 48271))) (tOp rMulG (tOp (rIx K) (tVar 0) (tC (.int 1))) (tC (.int 69621)))) (tC (.int 11))) tNil)) (tC (.int 2147483647))) (gSub (tVar 0) (tC (.int 0)) rSetL))
  (tSeq (tAsg (tOp (rAddG K) (tOp (rIx K) (tVar 0) (tC (.int 1))) (tC (.int 1))) (gSub (tVar 0) (tC (.int 1)) rSetL))
  (tRet (tOp rModG (tCB rInt1 (tCons (tOp rDivG (tOp (rIx K) (tVar 0) (tC (.int 0))) (tC (.int 7))) tNil)) (tVar 1)))))))
def rollPre : List D → Prop := fun ds => ∃ n : Int, ds = [.int n] ∧ 0 < n ∧ n < 2 ^ 64
def rollPost : List D → Res → Prop := fun ds r => ∃ n i : Int, ds = [.int n] ∧ r = .ret (.int i) ∧ 0 ≤ i ∧ i < n
abbrev spRoll (K : PySem.W.Frag) (T : Tb) : Sp := spQ K T rollPre rollPost
theorem cdivw {i n : Int} (h : 0 < n) (h2 : n < 2 ^ 64) : CDivW i n := wide_div (b := 64) h (by omega) (by decide) (by decide)
theorem roll_xs {ds : List D} (h : rollPre ds) : Xs K W (t_roll K W) (argsQ T ["dice", "many", "found"] ds) (fnP rollPost ds) := by
  obtain ⟨n, rfl, hn, hn2⟩ := h
  have i0 : ∀ {Δ : En} {j : Int}, Δ[0]? = some (Sl.dice T) → (j = 0 ∨ j = 1 ∨ j = 2) → Ev K (WE W) (tOp (rIx K) (tVar 0) (tC (.int j))) Δ IntD (fun _ => False) := fun h1 h2 => ev_ix_dice h1 h2
  refine xs_seq (xs_if (Rt := fun _ => True) (X := fun _ => False) ?_ (fun _ z => z.elim) (fun _ => ?_) fun _ => xs_next ?_)
  · refine et_or (R1 := fun _ => True) (R2 := fun _ => True) (et_iop (i0 rfl (by simp)) ev_int fun i => ⟨_, od_eqI⟩) (fun _ => ?_) (fun _ _ _ => trivial) fun _ => trivial
    exact et_and (R1 := fun _ => True) (R2 := fun _ => True) (et_iop (i0 rfl (by simp)) ev_int fun i => ⟨_, od_eqI⟩) (fun _ => et_iop (i0 rfl (by simp)) ev_int fun i => ⟨_, od_gt⟩) (fun _ _ _ => trivial) fun _ => trivial
  · refine xs_seq (xs_asg (R := fun d => ∃ i : Int, d = .int i ∧ 0 ≤ i ∧ i < n) (X := fun _ => False) ?_ (fun _ z => z.elim) fun d hd => ?_)
    · exact ev_iop (ev_intc (i0 rfl (by simp))) (ev_var rfl) fun i => (od_mod hn).imp fun d e => ⟨_, e, Int.emod_nonneg _ (by omega), Int.emod_lt_of_pos _ hn⟩
    · obtain ⟨i, rfl, h1, h2⟩ := hd
      refine xs_seq (xs_setD (T := T) (X := fun _ => False) rfl (by simp) ?_ (fun _ z => z.elim) ?_)
      · exact ev_iop (i0 rfl (by simp)) (ev_var rfl) fun i => (od_div (cdivw hn hn2)).imp fun d e => ⟨_, e⟩
      · exact xs1_ret (d := .int i) (ev_var rfl) ⟨n, i, rfl, rfl, h1, h2⟩
  · refine xs_seq (xs_setD (T := T) (X := fun _ => False) rfl (by simp) (ev_int.imp fun d e => ⟨_, e⟩) (fun _ z => z.elim) ?_)
    refine xs_seq (xs_setD (T := T) (X := fun _ => False) rfl (by simp) ?_ (fun _ z => z.elim) ?_)
    · refine ev_iop (ev_intc (ev_iop (ev_op (Ra := IntD) (Rb := IntD) (ev_iop (i0 rfl (by simp)) ev_int fun i => (od_mul (.inr ⟨by decide, by decide⟩)).imp fun d e => ⟨_, e⟩) (ev_iop (i0 rfl (by simp)) ev_int fun i => (od_mul (.inr ⟨by decide, by decide⟩)).imp fun d e => ⟨_, e⟩) fun x y ⟨i, e1⟩ ⟨j, e2⟩ => ?_) ev_int fun i => od_add.imp fun d e => ⟨_, e⟩)) ev_int fun i => (od_mod (by decide)).imp fun d e => ⟨_, e⟩
      subst e1; subst e2
      exact od_add.imp fun d e => ⟨_, e⟩
    · refine xs_seq (xs_setD (T := T) (X := fun _ => False) rfl (by simp) ?_ (fun _ z => z.elim) ?_)
      · exact ev_iop (i0 rfl (by simp)) ev_int fun i => od_add.imp fun d e => ⟨_, e⟩
      · refine xs_ret (R := fun d => ∃ i : Int, d = .int i ∧ 0 ≤ i ∧ i < n) (X := fun _ => False) ?_ (fun _ z => z.elim) fun d hd => ?_
        · exact ev_iop (ev_intc (ev_iop (i0 rfl (by simp)) ev_int fun i => (od_div (cdivw (by decide) (by decide))).imp fun d e => ⟨_, e⟩)) (ev_var rfl) fun i => (od_mod hn).imp fun d e => ⟨_, e, Int.emod_nonneg _ (by omega), Int.emod_lt_of_pos _ hn⟩
        · obtain ⟨i, rfl, h1, h2⟩ := hd
          exact ⟨n, i, rfl, rfl, h1, h2⟩
/-! ### _law_dice -/
def t_dice (K : PySem.W.Frag) (W : WX) : TS :=
  (tSeq (tIfS (tTest (tChain (rLtG K) (rLtG K) (tOp rSubG (tC (.int 0)) (tC (.int 10))) (tVar 0) (tC (.int 10)))) (tRet (tLst (tCons (tCB rAbs (tCons (tVar 0) tNil)) (tCons (tC (.int 0)) (tCons (tC (.int 2)) tNil))))) tNext)
  (tRet (tLst (tCons (tVar 0) (tCons (tOp (rAddG K) (tC (.int 1)) (tOp rModG (tCB rInt1 (tCons (tVar 0) tNil)) (tC (.int 1009)))) (tCons (tCB rInt1 (tCons (tOp rGeG (tVar 0) (tOp rPowG (tC (.int 10)) (tC (.int 18)))) tNil)) tNil))))))
def dicePre : List D → Prop := fun ds => ∃ n : Int, ds = [.int n]
def IsDice (d : D) : Prop := ∃ x y z : Int, d = .lst [.int x, .int y, .int z]
def dicePost : List D → Res → Prop := fun ds r => ∃ d, IsDice d ∧ r = .ret d
abbrev spDice (K : PySem.W.Frag) : Sp := spD K dicePre dicePost
theorem dice_xs {ds : List D} (h : dicePre ds) : Xs K W (t_dice K W) (argsE ["cell"] ds) (fnP dicePost ds) := by
  obtain ⟨c, rfl⟩ := h
  refine xs_seq (xs_if (Rt := fun _ => True) (X := fun _ => False) (et_val ?_) (fun _ z => z.elim) (fun _ => ?_) fun _ => xs_next ?_)
  · exact ev_chain (ev1_op ev_int ev_int od_sub) (ev_var rfl) od_lt (fun _ => ev_int) (fun _ => od_lt.imp fun d e => ⟨_, e, trivial⟩) fun _ => ⟨_, rfl, trivial⟩
  · exact xs1_ret (ev1_lst (ea1_cons (ev1_cb (ea1_cons (ev_var rfl) ea_nil) cd_abs) (ea1_cons ev_int (ea1_cons ev_int ea_nil)))) ⟨_, ⟨_, _, _, rfl⟩, rfl⟩
  · exact xs1_ret (ev1_lst (ea1_cons (ev_var rfl) (ea1_cons (ev1_op ev_int (ev1_op (ev1_cb (ea1_cons (ev_var rfl) ea_nil) cd_intI) ev_int (od_mod (by decide))) od_add) (ea1_cons (ev1_cb (ea1_cons (ev1_op (ev_var rfl) (ev1_op ev_int ev_int (od_pow ⟨by decide, by decide, by decide⟩)) od_ge) ea_nil) cd_intB) ea_nil)))) ⟨_, ⟨_, _, _, rfl⟩, rfl⟩
/-! ### _law_rounds(script, 1) -/
/-- the state of slots that say nothing -/
theorem sta_no {G H : Hp} {σ : L2.St} (e : Exx G H) : Sta K none G H G H σ (List.replicate σ.length .no) := by
  have no : ∀ {i : Nat} {x : Sl}, (List.replicate σ.length Sl.no)[i]? = some x → x = .no := fun {i x} h => by
    rw [List.getElem?_replicate] at h
    split at h
    · exact (Option.some.inj h).symm
    · cases h
  refine Sta.start ⟨e, by simp, fun a T e => (nomatch e), fun i d h => ?_, fun i bs h => ?_, fun i j bs cs p h => ?_, fun i T h => ?_⟩
  · cases no h
  · cases no h
  · cases no h
  · cases no h
def t_rounds (K : PySem.W.Frag) (W : WX) (sp__law_dice : Sp) : TS :=
  (tSeq (tAsg (tSl (rSlG K) (tVar 0) tNoPart (tPart (tVar 1))) (gName 2))
  (tSeq (tIfS (tTest (tOp (rEqG K) (tVar 2) (tLst tNil))) (tAsg (tLst (tCons (tC (.int 0)) tNil)) (gName 2)) tNext)
  (tRet (tLc (iSeq K (tVar 2)) (gName 3) tYes (tCallS sp__law_dice E00 (tCons (tVar 3) tNil)) [3]))))
def spRounds (K : PySem.W.Frag) : Sp := fun vs H Q E => ∃ (a : Addr) (ns : List Int), vs = [.ref a, .int 1] ∧ SqL K H a (ns.map V.int) ∧ ∀ (l d : Addr) (H' : Hp), (∀ b o, H b = some o → (∀ ps, o ≠ HO.tbl ps) → H' b = some o) → Tbd H H' → H' l = some (.lst [.ref d]) → DiceAt H' d → Q (.ref l) H'
theorem rounds_rest {c : Option Int} : Xs K W (tSeq (tIfS (tTest (tOp (rEqG K) (tVar 2) (tLst tNil))) (tAsg (tLst (tCons (tC (.int 0)) tNil)) (gName 2)) tNext)
  (tRet (tLc (iSeq K (tVar 2)) (gName 3) tYes (tCallS (spDice K) E00 (tCons (tVar 3) tNil)) [3]))) [.no, .dat (.int 1), .dat (.lst (c.toList.map D.int)), .no] (fun o => ∃ d, IsDice d ∧ o = .rt (.lst [d])) := by
  have last : ∀ n : Int, Xs K W (tRet (tLc (iSeq K (tVar 2)) (gName 3) tYes (tCallS (spDice K) E00 (tCons (tVar 3) tNil)) [3])) [.no, .dat (.int 1), .dat (.lst [.int n]), .no] (fun o => ∃ d, IsDice d ∧ o = .rt (.lst [d])) := fun n => by
    refine xs_ret (R := fun e => ∃ d, IsDice d ∧ e = .lst [d]) (X := fun _ => False) ?_ (fun _ z => z.elim) fun e ⟨d, hd, he⟩ => ⟨d, hd, by rw [he]⟩
    refine ev_lc (Rw := (· = [.int n])) (ew_inl (ew_list ((ev_var rfl).imp fun d e => ⟨[.int n], e, rfl⟩))) (fun items i acc => acc.length = i ∧ ∀ d ∈ acc, IsDice d) (fun _ _ => ⟨rfl, by simp⟩) (fun items i d acc ei hi ha => ?_) fun items acc ei ha => ?_
    · subst ei
      have e0 : i = 0 ∧ d = .int n := by
        cases i with
        | zero => simp at hi; exact ⟨rfl, hi.symm⟩
        | succ i => simp at hi
      obtain ⟨rfl, rfl⟩ := e0
      refine ⟨[3], _, by simp, tg_name, et_yes.imp fun b eb => ⟨fun _ => ?_, fun z => by rw [eb] at z; cases z⟩⟩
      refine ev_call (Rs := (· = [.int n])) (ea1_cons (ev_var rfl) ea_nil) (fun ds e => ⟨n, e⟩) (fun ds e _ ⟨e', he, z⟩ => ?_) fun ds C _ ⟨_, _, z⟩ => by cases z
      cases z
      rw [ha.1]
      refine ⟨szlt (by decide), by rw [List.length_append, ha.1]; rfl, fun x hx => ?_⟩
      rcases List.mem_append.mp hx with z | z
      · exact ha.2 x z
      · rw [List.mem_singleton.mp z]; exact he
    · subst ei
      match acc, ha with
      | [d], ⟨_, h⟩ => exact ⟨d, h d (by simp), rfl⟩
  refine xs_seq ?_
  cases c with
  | none =>
    refine xs1_if (b := true) (et1_val (ev1_op (ev_var rfl) (ev1_lst ea_nil) (od_eqSelf rfl rfl))) (fun _ => ?_) fun z => by cases z
    exact xs1_asg (d := .lst [.int 0]) (ev1_lst (ea1_cons ev_int ea_nil)) (last 0)
  | some n =>
    refine xs_if (Rt := fun _ => True) (X := fun _ => False) (et_val (ev_op (Ra := (· = .lst [.int n])) (Rb := (· = .lst [])) (ev_var rfl) (ev1_lst ea_nil) fun x y e1 e2 => ?_)) (fun _ z => z.elim) (fun _ => ?_) fun _ => ?_
    · subst e1; subst e2
      exact (od_eqD rfl rfl).imp fun d e => ⟨_, e, trivial⟩
    · exact xs1_asg (d := .lst [.int 0]) (ev1_lst (ea1_cons ev_int ea_nil)) (last 0)
    · exact xs_next (last n)
theorem rounds_pure {H : Hp} {vs : List V} {Q : VK} {E : XK} (h : spRounds K vs H Q E) : t_rounds K W (spDice K) { nx := fun _ H' => Q .non H', rt := Q } (L2.start ["script", "most", "cells", "cell"] vs) H := by
  obtain ⟨a, ns, rfl, hS, k⟩ := h
  refine ⟨_, rfl, ⟨_, rfl, _, rfl, .inl ⟨a, _, rfl, hS, fun p hp => ?_⟩⟩⟩
  let G1 : Hp := upd (fun _ => none) p (.lst (cutV (ns.map V.int) none (some 1)))
  let H1 : Hp := upd H p (.lst (cutV (ns.map V.int) none (some 1)))
  have e1 : Exx G1 H1 := fun b o e nt => by
    by_cases c : b = p
    · rw [c] at e ⊢
      have e' := e
      show upd H p _ p = _
      rw [upd_same]
      rw [show G1 p = some _ from upd_same] at e'
      exact e'
    · rw [show G1 b = none from upd_ne c] at e
      cases e
  have s0 : Sta K none G1 H1 G1 H1 [some (V.ref a), some (V.int 1), none, none] (List.replicate 4 .no) := sta_no e1
  have r1 : RpL K G1 (cutV (ns.map V.int) none (some 1)) (cutD (ns.map D.int) none (some 1)) := (RpL.ints ns).cut none (some 1)
  have ec : cutD (ns.map D.int) none (some 1) = (ns.head?.toList.map D.int) := by
    rw [show (some (1 : Int)) = some ((1 : Nat) : Int) from rfl, cutD_to]
    cases ns <;> rfl
  have s1 := (s0.set (i := 1) (v := .int 1) (.int 1)).set (i := 2) (v := .ref p) (d := .lst (ns.head?.toList.map D.int)) (by rw [← ec]; exact .lst upd_same r1)
  refine rounds_rest (W := W) none G1 H1 G1 H1 _ _ s1 (fun _ _ _ _ _ _ ⟨_, _, z⟩ => nomatch z) (fun v d G' H' g rv p2 => ?_) (fun _ _ _ _ _ _ ⟨_, _, z⟩ => nomatch z) (fun _ _ _ _ _ _ ⟨_, _, z⟩ => nomatch z) (fun _ _ _ _ _ _ _ ⟨_, _, z⟩ => nomatch z)
  obtain ⟨d', ⟨x, y, z, hd⟩, e⟩ := p2
  cases e
  obtain ⟨l, xs, rfl, hl, hr⟩ := rv.lst_inv
  cases hr with
  | cons ra rr =>
    cases rr
    subst hd
    obtain ⟨dd, ys, rfl, hdd, hr2⟩ := ra.lst_inv
    have ey : ys = [V.int x, .int y, .int z] := by
      have := RpL.ints_inv (ns := [x, y, z]) hr2
      exact this
    subst ey
    refine k l dd H' (fun b o e nt => g.keep b o (by simp) (by show upd H p _ b = _; rw [upd_ne (ne_of_none e hp)]; exact e) nt) (fun T t => g.tk rfl T (Tbd.new hp T t)) (g.sub.l hl) ⟨x, y, z, g.sub.l hdd⟩
end
end Ts


/-! Faults that are told, the law's own def, its frame. -/
namespace Ts
open PySem PySem.Spec PyProof.Rows L2

section
variable {K : PySem.W.Frag} {E : L2.St → XK} {W : WX} {Δ : En} {T : Tb} {te ta tb : TE} {X : Addr → Prop} {post : Out → Prop} {R : D → Prop}
/-- _law_told(lambda: ..) -/
theorem ev_told {i : Nat} {t : XK → TE} {CS : Addr} {ret : Str} {Xb : Addr → Prop} (hi : Δ[i]? = some (Sl.dice T)) (h : ∀ EL, Ev K (fun _ => EL) (t EL) Δ R Xb) (hx : ∀ C, Xb C → PySem.W.exmOne K (.ref C) (.ref CS) = some true) :
    Ev K E (LamX.tLam T (LamX.TTold K CS ret) t) Δ (fun d => R d ∨ ((∃ C, Xb C) ∧ d = .str ret)) X := fun q G0 H0 G H σ Q s k kx => by
  obtain ⟨a, rfl, ha⟩ := s.rs.dice i T hi
  obtain ⟨n1, dq, tb⟩ := s.rs.gq a T rfl
  refine ⟨tb, fun H1 e1 T1 => ?_⟩
  have g : Gr (some (a, T)) G H G H1 := ⟨Exx.refl _, fun _ _ e => .inl e, fun b o e nt => e1 b o (s.sub b o e nt) nt, fun b o _ e nt => e1 b o e nt, fun c => (nomatch c), fun b T' c ⟨⟨x, y, z, d⟩, _⟩ => by
    cases c
    exact ⟨⟨x, y, z, e1 _ _ d (fun _ z => nomatch z)⟩, T1⟩⟩
  exact h _ (some (a, T)) G0 H0 G H1 σ Q (s.go g) (fun v d G' H' g' rv p => k v d G' H' (s.tr g g') rv (.inl p)) fun C G' H' g' x => ⟨true, hx C x, fun _ => k _ _ G' H' (s.tr g g') (.str ret) (.inr ⟨⟨C, x⟩, rfl⟩), fun z => by cases z⟩
theorem emp_sub {H : Hp} : Exx (fun _ => none) H := fun _ _ e _ => nomatch e
/-- .. at the end of a law -/
theorem told_fin {σ : L2.St} {H : Hp} {Q : VK} {t : XK → TE} {CS : Addr} {ret : Str} {Xb : Addr → Prop} (hT : LamX.Tabs T H) (h : ∀ EL, Ev K (fun _ => EL) (t EL) (List.replicate σ.length .no) (fun _ => False) Xb) (hx : ∀ C, Xb C → PySem.W.exmOne K (.ref C) (.ref CS) = some true)
    (k : ∀ H', LamX.Tabs T H' → Q (.str ret) H') : LamX.tLam T (LamX.TTold K CS ret) t σ H Q := by
  refine ⟨hT, fun H1 e1 T1 => ?_⟩
  exact h _ none _ H1 _ H1 σ Q (sta_no emp_sub) (fun _ _ _ _ _ _ z => z.elim) fun C G' H' g' x => ⟨true, hx C x, fun _ => k H' (g'.tk rfl T T1), fun z => by cases z⟩
/-- an expression at the end of a law -/
theorem ev_fin {σ : L2.St} {H : Hp} {Q : VK} {v : V} {d : D} (h : Ev K E te (List.replicate σ.length .no) (· = d) fun _ => False) (hv : d.v = some v) (k : ∀ H', Tbd H H' → Q v H') : te σ H Q :=
  h none _ H _ H σ Q (sta_no emp_sub) (fun u d' G' H' g r e => by
    subst e
    rw [r.sc hv]
    exact k H' (g.tk rfl)) fun _ _ _ _ z => z.elim
theorem dec_str {x y : Str} : decide (V.str x = V.str y) = decide (x = y) := by rw [Bool.eq_iff_iff]; simp
/-- .. == 'Fault' -/
theorem told_eq {σ : L2.St} {H : Hp} {Q : VK} {ret : Str} {tl : TE} (h : ∀ Q' : VK, (∀ H', LamX.Tabs T H' → Q' (.str ret) H') → tl σ H Q') (k : ∀ H', LamX.Tabs T H' → Q (.bl true) H') : tOp (rEqG K) tl (tC (.str ret)) σ H Q :=
  h _ fun H' t => .inl ⟨rfl, by
    rw [decide_eq_true rfl]
    exact k H' t⟩
/-- a and b, both true, at the end of a law -/
theorem and_fin {σ : L2.St} {H : Hp} {Q : VK} (h1 : ∀ Q' : VK, (∀ H', LamX.Tabs T H' → Q' (.bl true) H') → ta σ H Q') (h2 : ∀ H', LamX.Tabs T H' → tb σ H' Q) : tAndV ta tb σ H Q := h1 _ fun H' t => ⟨true, rfl, iteT (h2 H' t)⟩
end

/-! ### the derivation of such a call -/
section
variable {X : Cx}
theorem pe_told {k j : Nat} {c P CS g : Addr} {x e ret : Str} {pg : Arguments} {sg : Scope} {fd : FuncData} {p1 p2 p3 p4 p5 p6 p7 p8 lpos p pos : Pos} {params : Arguments} {body : Expr} {scope : Scope} {t : XK → TE} {T : Tb}
    (F : FunD X.K x x pg [.Try [.Return (some (.Call (.Name "what" p1) [] [] p2)) p3] [.ExceptHandler (some (.Name e p4)) none [.Return (some (.Constant (.str ret) j p5)) p6] p7] [] [] p8] sg [] [] g fd)
    (hm : X.mg x = some (.ref g)) (hb : Binds X.K fd ["what"] []) (Sg : FnScope ["what"] ["what"] sg) (hva : Vis sg "what") (hge : sg.names.lookup e = some .globalImplicit) (hme : X.mg e = some (.ref CS))
    (TB : LamX.TabB X.base X.mg c P) (hcode : X.env.code = .ref c) (hmT : (P, X.env.qual ++ "<lambda>") ∈ T) (hu : ∀ p ∈ T, p.1 = P → p.2 = X.env.qual ++ "<lambda>") (hr : Room (k + 2) X.A) (hg : Gl X x) (L : LamX.LamS X.env.scope scope) (hdef : defaultsOf params X.env = ([], []))
    (hbind : ∀ (q : Str) (cl : List (Str × Addr)) (pm cv ctv : Value), bindArgs (PySem.W.kla_fn "<lambda>" q params body scope cl pm cv ctv) ⟨[], []⟩ = pure [])
    (hbody : ∀ (A : Around) (outer : List Env) (s : Shared) (H : Hp) (E : XK) (f c' : Addr), Room k (A.deeper (LamX.lamEnv X scope s.heap.objs.size f c')) → PE (LamX.lamCx X A outer s H E scope f c') body (t E))
    (hdb : (x == ("__debug__" : Str)) = false := by decide) (hde : (e == ("__debug__" : Str)) = false := by decide) :
    PE X (.Call (.Name x p) [.Lambda params body scope lpos] [] pos) (LamX.tLam T (LamX.TTold X.K CS ret) t) := by
  have kp := F.kp
  obtain ⟨oc, od, dV, kV, doc, pm, an, cdv, ct, osl, rfl, lk, hcd, _, _⟩ := F.ex
  exact LamX.pe_lamcall (Ng := ["what"]) hg hm kp lk hcd hb Sg rfl hva (LamX.told_gives hge hme hde fun _ => rfl) TB hcode hmT hu hr L hdef hbind hbody hdb
end

/-! ### the law's own def -/
section
variable {P : Program} {w : World} {K : PySem.W.Frag} {mg : Str → Option Value} {base : Heap}
/-- a def with a promise over heaps, its code object known -/
theorem fn_H {x qual : Str} {params : Arguments} {body : List Stmt} {scope : Scope} {f : Addr} {fd : FuncData} {N ps : List Str} {k : Nat} {sp : Sp} {t : WX → TS} (F : FunD K x qual params body scope [] [] f fd) (S : FnScope N ps scope) (len : ∀ vs H Q E, sp vs H Q E → vs.length = ps.length)
    (der : ∀ (cdv : Value) (A : Around) (outer : List Env) (s : Shared) (H : Hp) (E : XK), fd.code = cdv → Room k (A.deeper (envOfC qual scope s.heap.objs.size f cdv)) → PSs (cxOf (L2.CX P w) P w K mg base N qual scope f cdv A outer s H E) body (t (wDef E)))
    (h : ∀ (W : WX) vs H Q E, sp vs H Q E → t W { nx := fun _ H' => Q .non H', rt := Q } (L2.start N vs) H) : FnOk P w K mg base (L2.CX P w) (k + 1) f fd ps sp := by
  refine ⟨len, fun A outer s H args us vs Q E hr e0 hb r hsp => ?_⟩
  obtain ⟨oc, od, dV, kV, doc, pm, an, cdv, ct, osl, rfl, lk, hcd, _, _⟩ := F.ex
  exact LamX.run_ofS lk hcd S hr e0 hb r (len vs H Q E hsp) fun hr' => ⟨t (wDef E), der cdv A outer s H E rfl hr', h (wDef E) vs H Q E hsp⟩
theorem code_of {x qual : Str} {params : Arguments} {body : List Stmt} {scope : Scope} {q : Str × Option Str} {fd : FuncData} (F : FunD K x qual params body scope [] [] (He.fAd K q) fd) : fd.code = .ref (He.cT K q).1 := by
  obtain ⟨oc, od, dV, kV, doc, pm, an, cdv, ct, osl, rfl, lk, hcd, _, _⟩ := F.ex
  obtain ⟨c, e⟩ := He.codeIn_ref hcd
  have : He.codeOf K q = c := He.codeOf_eq lk e
  show cdv = .ref (He.codeOf K q)
  rw [this, e]
/-- a def of data, known by its name -/
theorem cal_of {x : Str} {f : Addr} {fd : FuncData} {ps : List Str} {k : Nat} {sp : Sp} (F : FnOk P w K mg base (L2.CX P w) k f fd ps sp) (hm : mg x = some (.ref f)) (kp : PySem.W.keepIn K (.ref f) = true) (b : Binds K fd ps []) : Cal P w K mg base k x sp := ⟨⟨f, fd, ps, F, hm, kp, b⟩⟩
def spLaw (K : PySem.W.Frag) (cs : List Addr) : Sp := fun vs H Q E => ∃ (a : Addr) (ns : List Int), vs = [.ref a] ∧ SqL K H a (ns.map V.int) ∧ (∀ p ∈ cs, H p = some (.tbl #[])) ∧ ∀ H', Q (.bl true) H'
/-- for dice in _law_rounds(script, 1): ..; return .. -/
theorem law_frame {W : WX} {N : List Str} {T : Tb} {cs : List Addr} {tb : TS} {tf : TE} {vs : List V} {H : Hp} {Q : VK} {E : XK} {n : Nat} (h : spLaw K cs vs H Q E) (hT : ∀ p ∈ T, p.1 ∈ cs) (hN : N.length = n + 2)
    (hb : Xs K W tb (Sl.no :: Sl.dice T :: List.replicate n Sl.no) (fun o => match o with
      | .nx _ => True
      | .ct _ => True
      | _ => False))
    (hf : ∀ (σ : L2.St) (H' : Hp), LamX.Tabs T H' → tf σ H' Q) :
    (tSeq (tFor (iSeq K (tCallS (spRounds K) (WE W) (tCons (tVar 0) (tCons (tC (.int 1)) tNil)))) (gName 1) tb) (tRet tf)) { nx := fun _ H' => Q .non H', rt := Q } (L2.start N vs) H := by
  obtain ⟨a, ns, rfl, hS, hcs, k⟩ := h
  have hT0 : LamX.Tabs T H := fun p hp => .nil (hcs _ (hT p hp))
  have hlen : (L2.start N [V.ref a]).length = n + 2 := by simp [L2.start, hN]
  refine .inl ⟨.ref a, start_get rfl, a, ns, rfl, hS, fun l d H1 e1 tk1 hl hd => ⟨l, rfl, ⟨[.ref d], .inl (.inl hl)⟩, ?_⟩⟩
  have hld : ∀ {H' : Hp}, H' l = some (.lst [.ref d]) → DiceAt H' d → l ≠ d := fun h1 ⟨x, y, z, h2⟩ e => by
    rw [e, h2] at h1
    cases h1
  refine ⟨fun i m σ' H' => m = 1 - i ∧ i ≤ 1 ∧ H' l = some (.lst [.ref d]) ∧ DiceAt H' d ∧ LamX.Tabs T H' ∧ (i = 0 → σ'.length = n + 2 ∧ σ'[0]? = some (some (.ref a))), ⟨1, rfl, by decide, hl, hd, tk1 T hT0, fun _ => ⟨hlen, start_get rfl⟩⟩, ?_⟩
  rintro i m σ' H' ⟨rfl, hi, h1, h2, h3, h4⟩
  by_cases hi0 : i = 0
  · subst hi0
    obtain ⟨h5, h6⟩ := h4 rfl
    refine .inr ⟨⟨[.ref d], .ref d, .inl (.inl h1), rfl⟩, fun σ2 H2 => H2 l = some (.lst [.ref d]) ∧ DiceAt H2 d ∧ LamX.Tabs T H2, fun σ2 H2 ⟨a1, a2, a3⟩ => ⟨0, by decide, rfl, Nat.le_refl _, a1, a2, a3, fun z => nomatch z⟩, fun x H2 y => ?_⟩
    obtain ⟨e, y⟩ := y
    subst e
    have ex : V.ref d = x := by
      have := y [.ref d] (.inl (.inl h1))
      simpa using this
    subst ex
    have st : Sta K (some (d, T)) (fun _ => none) H2 (fun _ => none) H2 (σ'.set 1 (some (V.ref d))) (Sl.no :: Sl.dice T :: List.replicate n Sl.no) := by
      have no : ∀ {i : Nat} {x : Sl}, (Sl.no :: Sl.dice T :: List.replicate n Sl.no)[i]? = some x → x = .no ∨ (i = 1 ∧ x = .dice T) := fun {i x} h => by
        match i with
        | 0 => exact .inl (Option.some.inj h).symm
        | 1 => exact .inr ⟨rfl, (Option.some.inj h).symm⟩
        | i + 2 =>
          have h' : (List.replicate n Sl.no)[i]? = some x := by simpa using h
          rw [List.getElem?_replicate] at h'
          split at h'
          · exact .inl (Option.some.inj h').symm
          · cases h'
      refine Sta.start ⟨emp_sub, by simp [h5], fun b T' e => ?_, fun i d' h => ?_, fun i bs h => ?_, fun i j bs cs p h => ?_, fun i T' h => ?_⟩
      · cases e
        exact ⟨fun _ e => (nomatch e), h2, h3⟩
      · rcases no h with z | ⟨_, z⟩ <;> cases z
      · rcases no h with z | ⟨_, z⟩ <;> cases z
      · rcases no h with z | ⟨_, z⟩ <;> cases z
      · rcases no h with z | ⟨z1, z⟩
        · cases z
        · cases z
          subst z1
          exact ⟨d, rfl, List.getElem?_set_self (by omega)⟩
    have fin : ∀ {σ2 : L2.St} {Δ2 : En} {G2 H3 : Hp}, Sta K (some (d, T)) (fun _ => none) H2 G2 H3 σ2 Δ2 → H3 l = some (.lst [.ref d]) ∧ DiceAt H3 d ∧ LamX.Tabs T H3 := fun s => by
      obtain ⟨b1, b2⟩ := s.gr.dq d T rfl ⟨h2, h3⟩
      refine ⟨s.gr.kl (fun T' z => ?_) h1, b1, b2⟩
      have e : (d, T) = (l, T') := Option.some.inj z
      exact hld h1 h2 (congrArg Prod.fst e).symm
    exact hb _ _ _ _ _ _ _ st (fun _ _ _ _ _ s _ => fin s) (fun _ _ _ _ _ _ z => z.elim) (fun _ _ _ _ _ _ z => z.elim) (fun _ _ _ _ _ s _ => fin s) fun _ _ _ _ _ _ _ z => z.elim
  · have e : i = 1 := by omega
    subst e
    exact .inl ⟨⟨[.ref d], .inl (.inl h1), Nat.le_refl _⟩, hf σ' H' h3⟩
end
end Ts


/-! More on data: what == may look at; a, b, c = [], x, y. -/
namespace Ts
open PySem PySem.Spec PyProof.Rows L2

/-! ### data that == may look at, at most n deep -/
def okN : Nat → D → Bool
  | _, .non => true
  | _, .bl _ => true
  | _, .int _ => true
  | _, .str x => PyData.strOk x
  | n + 1, .lst xs => xs.all (okN n)
  | n + 1, .tup xs => xs.all (okN n)
  | _, _ => false
theorem okN_spec : ∀ (n : Nat) (d : D), okN n d = true → d.pure = true ∧ PyData.canLay0 d.py = true ∧ PyData.depth d.py ≤ n
  | n, .non, _ => ⟨rfl, rfl, Nat.zero_le _⟩
  | n, .bl _, _ => ⟨rfl, rfl, Nat.zero_le _⟩
  | n, .int _, _ => ⟨rfl, rfl, Nat.zero_le _⟩
  | n, .str x, h => ⟨rfl, by
    have h' : PyData.strOk x = true := by cases n <;> exact h
    exact h', Nat.zero_le _⟩
  | 0, .lst _, h => by simp [okN] at h
  | 0, .tup _, h => by simp [okN] at h
  | 0, .obj _ _, h => by simp [okN] at h
  | n + 1, .obj _ _, h => by simp [okN] at h
  | n + 1, .lst xs, h => by
    have key : ∀ ys : List D, ys.all (okN n) = true → D.pures ys = true ∧ PyData.canLayAll0 (D.pys ys) = true ∧ PyData.depthAll (D.pys ys) ≤ n := by
      intro ys
      induction ys with
      | nil => intro _; exact ⟨rfl, rfl, Nat.zero_le _⟩
      | cons y ys ih =>
        intro h
        obtain ⟨h1, h2⟩ := Bool.and_eq_true_iff.mp (by simpa using h : (okN n y && ys.all (okN n)) = true)
        obtain ⟨a1, a2, a3⟩ := okN_spec n y h1
        obtain ⟨b1, b2, b3⟩ := ih h2
        refine ⟨?_, ?_, ?_⟩
        · show (y.pure && D.pures ys) = true
          rw [a1, b1]; rfl
        · show (PyData.canLay0 y.py && PyData.canLayAll0 (D.pys ys)) = true
          rw [a2, b2]; rfl
        · exact Nat.max_le.mpr ⟨a3, b3⟩
    obtain ⟨k1, k2, k3⟩ := key xs (by simpa [okN] using h)
    exact ⟨k1, k2, Nat.succ_le_succ k3⟩
  | n + 1, .tup xs, h => by
    have key : ∀ ys : List D, ys.all (okN n) = true → D.pures ys = true ∧ PyData.canLayAll0 (D.pys ys) = true ∧ PyData.depthAll (D.pys ys) ≤ n := by
      intro ys
      induction ys with
      | nil => intro _; exact ⟨rfl, rfl, Nat.zero_le _⟩
      | cons y ys ih =>
        intro h
        obtain ⟨h1, h2⟩ := Bool.and_eq_true_iff.mp (by simpa using h : (okN n y && ys.all (okN n)) = true)
        obtain ⟨a1, a2, a3⟩ := okN_spec n y h1
        obtain ⟨b1, b2, b3⟩ := ih h2
        refine ⟨?_, ?_, ?_⟩
        · show (y.pure && D.pures ys) = true
          rw [a1, b1]; rfl
        · show (PyData.canLay0 y.py && PyData.canLayAll0 (D.pys ys)) = true
          rw [a2, b2]; rfl
        · exact Nat.max_le.mpr ⟨a3, b3⟩
    obtain ⟨k1, k2, k3⟩ := key xs (by simpa [okN] using h)
    exact ⟨k1, k2, Nat.succ_le_succ k3⟩
theorem okN_ok {n : Nat} {d : D} (h : okN n d = true) (hn : n ≤ 64 := by decide) : d.ok = true := by
  obtain ⟨h1, h2, h3⟩ := okN_spec n d h
  unfold D.ok SeqAt.shaped
  rw [h1, h2, decide_eq_true (Nat.le_trans h3 hn)]
  rfl

/-! ### a, b, c = [], x, y, the list one's own -/
section
variable {K : PySem.W.Frag} {q : Qd} {G0 H0 G H : Hp} {σ : L2.St} {Δ : En} {W : WX} {te tf : TE} {post : Out → Prop}
/-- a new list lies at p; the slot i gets it -/
theorem Sta.ownAt (s : Sta K q G0 H0 G H σ Δ) {i : Nat} {p : Addr} {ds : List D} {vs : List V} (hp : H p = some (.lst vs)) (r : RpL K G vs ds) (n1 : Nt G p) (n0 : Nt H0 p) (nq : ∀ T, q ≠ some (p, T))
    (other : ∀ (l : Nat) (as : List D), Δ[l]? = some (Sl.own as) → σ[l]? ≠ some (some (V.ref p))) : Sta K q G0 H0 G H (σ.set i (some (V.ref p))) (Δ.set i (.own ds)) := by
  have old : ∀ {j : Nat} {e : Sl}, (Δ.set i (Sl.own ds))[j]? = some e → (j = i ∧ e = .own ds ∧ i < Δ.length) ∨ (j ≠ i ∧ Δ[j]? = some e ∧ (σ.set i (some (V.ref p)))[j]? = σ[j]?) := fun {j e} he => by
    by_cases c : i = j
    · subst c
      have hl : i < Δ.length := by
        have := (List.getElem?_eq_some_iff.mp he).1
        simpa using this
      rw [List.getElem?_set_self hl] at he
      cases he
      exact .inl ⟨rfl, rfl, hl⟩
    · rw [List.getElem?_set_ne c] at he
      exact .inr ⟨fun z => c z.symm, he, List.getElem?_set_ne c⟩
  have self : ∀ {l : Nat}, l = i → i < Δ.length → (σ.set i (some (V.ref p)))[l]? = some (some (V.ref p)) := fun {l} e hl => by
    subst e
    exact List.getElem?_set_self (by rw [s.rs.len]; exact hl)
  refine ⟨s.gr, s.hq, s.rs.sub, by rw [List.length_set, List.length_set]; exact s.rs.len, s.rs.gq, fun j e he => ?_, fun j bs he => ?_, fun j k bs cs p2 h1' h2' h3' h4' => ?_, fun j T he => ?_⟩
  · rcases old he with ⟨_, c, _⟩ | ⟨_, c, c2⟩
    · cases c
    · rw [c2]; exact s.rs.dat j e c
  · rcases old he with ⟨c1, c, hl⟩ | ⟨_, c, c2⟩
    · cases c
      exact ⟨p, vs, self c1 hl, hp, r, n1, n0, nq⟩
    · rw [c2]; exact s.rs.own j bs c
  · rcases old h1' with ⟨c1, _, hl⟩ | ⟨m1, c1, e1⟩
    · rcases old h2' with ⟨c2, _, _⟩ | ⟨m2, c2, e2⟩
      · rw [c1, c2]
      · rw [self c1 hl] at h3'
        cases h3'
        rw [e2] at h4'
        exact absurd h4' (other _ _ c2)
    · rcases old h2' with ⟨c2, _, hl⟩ | ⟨m2, c2, e2⟩
      · rw [self c2 hl] at h4'
        cases h4'
        rw [e1] at h3'
        exact absurd h3' (other _ _ c1)
      · rw [e1] at h3'
        rw [e2] at h4'
        exact s.rs.dif j k bs cs p2 c1 c2 h3' h4'
  · rcases old he with ⟨_, c, _⟩ | ⟨_, c, c2⟩
    · cases c
    · rw [c2]; exact s.rs.dice j T c
theorem xs1_par30 {i j l : Nat} {d e : D} (h : Ev K (WE W) te Δ (· = d) fun _ => False) (h' : Ev K (WE W) tf Δ (· = e) fun _ => False) (k : post (.nx (((Δ.set i (.own [])).set j (.dat d)).set l (.dat e)))) :
    Xs K W (tPar3 i j l (tCons (tLst tNil) (tCons te (tCons tf tNil)))) Δ post := fun q G0 H0 G H σ T s k1 k2 k3 k4 k5 => by
  refine ⟨Nat.zero_le _, fun p hp => ?_⟩
  have g0 : Gr none G H G (upd H p (.lst [])) :=
    ⟨Exx.refl G, fun _ _ e => .inl e, fun a o e nt => by rw [upd_ne (ne_of_none (s.sub a o e nt) hp)]; exact s.sub a o e nt, fun a o _ e _ => by rw [upd_ne (ne_of_none e hp)]; exact e, fun _ => Tbd.new hp, fun _ _ z => nomatch z⟩
  have s0 := s.go g0.any
  have hGp : Nt G p := fun o c => Classical.byContradiction fun n => by
    rw [s.sub p o c (fun ps z => n ⟨ps, z⟩)] at hp; cases hp
  have hH0 : Nt H0 p := s.gr.live s.hq (.of hp)
  have hqp : ∀ T, q ≠ some (p, T) := fun T c => by
    obtain ⟨x, y, z, e⟩ := (s.dq p T c).1
    rw [hp] at e; cases e
  refine h q G0 H0 G _ σ _ s0 (fun v d' G1 H1 g1 r1 p1 => ?_) fun _ _ _ _ z => z.elim
  refine h' q G0 H0 G1 H1 σ _ (s0.go g1) (fun u e' G2 H2 g2 r2 p2 => ?_) fun _ _ _ _ z => z.elim
  subst p1; subst p2
  have g := s0.tr g1 g2
  have s2 := s0.go g
  have hp2 : H2 p = some (.lst []) := g.kl hqp upd_same
  have hG2 : Nt G2 p := g.un hGp upd_same
  have other : ∀ (l : Nat) (as : List D), Δ[l]? = some (Sl.own as) → σ[l]? ≠ some (some (V.ref p)) := fun l as e z => by
    obtain ⟨p3, vs3, a1, a2, _⟩ := s.rs.own l as e
    rw [a1] at z
    cases z
    rw [hp] at a2; cases a2
  exact ⟨_, _, _, rfl, k1 _ _ G2 H2 g.ex (((s2.ownAt (i := i) hp2 .nil hG2 hH0 hqp other).set (r1.ex g2.ex)).set r2) k⟩
end
/-! ### range(a, b, c) upward -/
theorem RgC.up {n l : Nat} (h0 : 0 < l) (h1 : l < 2 ^ 29) (h2 : n < 2 ^ 60) : RgC 0 (n : Int) (l : Int) ((n + l - 1) / l) := by
  have e : Builtin.Range.rangeSize 0 (n : Int) (l : Int) = (((n + l - 1) / l : Nat) : Int) := by
    unfold Builtin.Range.rangeSize
    rw [if_pos (by omega)]
    by_cases hn : n = 0
    · subst hn
      rw [if_neg (by omega)]
      have : (0 + l - 1) / l = 0 := Nat.div_eq_of_lt (by omega)
      rw [this]; rfl
    · rw [if_pos (by omega)]
      have e1 : n + l - 1 = (n - 1) + l := by omega
      rw [e1, Nat.add_div_right _ h0]
      have e2 : (n : Int) - 0 - 1 = ((n - 1 : Nat) : Int) := by omega
      rw [e2, Int.natCast_add, Int.natCast_ediv]
      rfl
  refine ⟨by omega, by omega, ?_, e⟩
  have h3 : (n + l - 1) / l ≤ n + l := Nat.le_trans (Nat.div_le_self _ _) (by omega)
  have h4 : (n + l - 1) / l * l ≤ n + l - 1 := Nat.div_mul_le_self _ _
  unfold Builtin.Range.small
  rw [e]
  have e5 : (((n + l - 1) / l : Nat) : Int) * (l : Int) = (((n + l - 1) / l * l : Nat) : Int) := by rw [Int.natCast_mul]
  simp only [Builtin.Range.rangeFitsLong, Bool.and_eq_true, Bool.or_eq_true, decide_eq_true_eq, beq_iff_eq]
  generalize (n + l - 1) / l = m at *
  refine ⟨by omega, .inr ?_⟩
  rw [if_pos (by omega)]
  simp only [Bool.and_eq_true, decide_eq_true_eq]
  omega
end Ts


/-! More rules: += on tuples, *=, //=, two lists of one's own, sums, membership in lists, try, raise .. from None. -/
namespace Ts
open PySem PySem.Spec PyProof.Rows L2

/-! ### x += y of tuples; x *= y, x //= y -/
theorem no_tup_iadd : typeLookup (.type "tuple") (dunderI "add") = pure none := by rw [typeLookup_type, builtinLookup_eq_fast]; kernel_rfl
theorem icat {P : Program} {w : World} {A : Around} {E : Value → Shared → Prop} {s : Shared} {t b : Addr} {vs ws : List Value} {Q : Value → Shared → Prop} (ht : IsTup s.heap t vs.toArray) (hb : IsTup s.heap b ws.toArray) (h0 : vs = [] → Q (.ref b) s) (h1 : vs ≠ [] → ws = [] → Q (.ref t) s)
    (h2 : vs ≠ [] → ws ≠ [] → Q (.ref s.heap.objs.size) { s with heap := s.heap.push { cls := .type "tuple", data := .seq (vs ++ ws).toArray } }) (hsz : vs.length + ws.length ≤ sizeLine) : wpAny (model P w) A (inplaceOp .Add (.ref t) (.ref b)) Q E s := by
  obtain ⟨⟨c1, d1, y1, l1⟩, ho, hc, n, hd⟩ := id ht
  obtain ⟨⟨c2, d2, y2, l2⟩, ho2, hc2, n2, hd2⟩ := id hb
  simp only at hc hd hc2 hd2
  subst hc hd hc2 hd2
  have go : ∀ {S : PySem.Spec} (g : PySem.Meets (Builtin.«tuple.__add__» ⟨[.ref t, .ref b], []⟩) S), S A (PySem.wants Q E) s → wpAny (model P w) A (inplaceOp .Add (.ref t) (.ref b)) Q E s := fun {S} g h =>
    PySem.wpAny_inplaceOp_concat ⟨_, ho, rfl⟩ ⟨_, ho2, rfl⟩ no_tup_iadd noFill_tuple_add seq_tuple_add (PySem.call_meets PySem.F.slot_tuple_add ⟨_, ho, rfl⟩ PySem.F.entry_tuple_add (PySem.F.args_tuple_add_2 _ _) g h)
  by_cases hv : vs = []
  · subst hv
    exact go (tuple_addW0 t b ([] : List Value).toArray ws.toArray n n2 d1 d2 l1 l2 (by simp)) ⟨ho, ho2, h0 rfl⟩
  · by_cases hw : ws = []
    · exact go (tuple_addW1 t b vs.toArray ws.toArray n n2 d1 d2 l1 l2 (by simpa using hv) (by simp [hw])) ⟨ho, ho2, h1 hv hw⟩
    · refine go (tuple_addW2 t b vs.toArray ws.toArray n n2 d1 d2 l1 l2 (by simpa using hv) (by simpa using hw) (by simp only [List.size_toArray]; exact hsz)) ⟨ho, ho2, ?_⟩
      have e : vs.toArray ++ ws.toArray = (vs ++ ws).toArray := by simp
      rw [e]
      exact h2 hv hw
theorem ip_cat {X : Cx} : PIp X .Add (rCatA X.K) := by
  intro pins s σ H x y v u Q I rx ry h
  obtain ⟨a, b, xs, ys, rfl, rfl, ha, hb, hz, q0, q1, q2⟩ := h
  cases rx
  cases ry
  obtain ⟨its, r1, p1, _⟩ := I.tuple ha
  obtain ⟨its2, r2, p2, _⟩ := I.tuple hb
  refine icat p1 p2 (fun z => ⟨.ref b, H, I, rfl, q0 (r1.nil_iff.mp z)⟩) (fun z1 z => ⟨.ref a, H, I, rfl, q1 (fun e => z1 (r1.nil_iff.mpr e)) (r2.nil_iff.mp z)⟩) (fun z1 z => ?_) (by rw [← r1.length, ← r2.length]; exact hz)
  refine ⟨.ref s.heap.objs.size, _, I.laid (t' := s.toks) (o := .tup (xs ++ ys)) (fun b ob q => Heap.get?_push_of_some _ q) (Nat.le_refl _) ?_, rfl, q2 (fun e => z1 (r1.nil_iff.mpr e)) (fun e => z (r2.nil_iff.mpr e)) _ (I.hok.fresh (Nat.le_refl _))⟩
  exact ⟨by rw [List.length_append]; exact hz, _, r1.append r2, IsTup.new _ _⟩
def rIAddA (K : PySem.W.Frag) : TIp := fun x y H Q => rIAddG x y H Q ∨ rCatA K x y H Q
theorem ip_addA {X : Cx} : PIp X .Add (rIAddA X.K) := PIp.or ip_addG ip_cat
def rIMulG : TIp := rI CMul fun i j => .int (i * j)
def rIDivG : TIp := rI CDivW fun i j => .int (i / j)
theorem ip_mulG {X : Cx} : PIp X .Mult rIMulG := by
  intro pins s σ H x y v u Q I r1 r2 h
  obtain ⟨i, j, e1, e2, hc, q⟩ := h
  subst e1; subst e2
  obtain ⟨t, rfl⟩ := r1
  obtain ⟨t', rfl⟩ := r2
  exact PyProof.Rows.imul_int ⟨.int _, H, I.tok _, ⟨_, rfl⟩, q⟩ hc.ok
theorem ip_divG {X : Cx} : PIp X .FloorDiv rIDivG := by
  intro pins s σ H x y v u Q I r1 r2 h
  obtain ⟨i, j, e1, e2, hc, q⟩ := h
  subst e1; subst e2
  obtain ⟨t, rfl⟩ := r1
  obtain ⟨t', rfl⟩ := r2
  have h1 : (0 : Int) < j := hc.1
  have hp := PyProof.noPylong_of_log2 (x := i) hc.2
  have hj : ¬ (j == 0) = true := by
    intro z
    have := eq_of_beq z
    omega
  have e : i.fdiv j = i / j := Int.fdiv_eq_ediv_of_nonneg i (by omega)
  refine PySem.AutoIntOps.ifloordiv_1 hj (by rw [hp]; decide) ?_
  rw [e]
  exact ⟨.int _, H, I.tok _, ⟨_, rfl⟩, q⟩
section
variable {K : PySem.W.Frag}
theorem iadA {i j : Int} : OpD K (rIAddA K) (.int i) (.int j) (· = .int (i + j)) := od_inl iad
theorem icatA {xs ys : List D} (hz : xs.length + ys.length ≤ sizeLine) : OpD K (rIAddA K) (.tup xs) (.tup ys) (· = .tup (xs ++ ys)) := fun G H v w Q e r1 r2 k => by
  obtain ⟨a, as, rfl, ha, hr⟩ := r1.tup_inv
  obtain ⟨b, bs, rfl, hb, hs⟩ := r2.tup_inv
  have la := hr.length
  have lb := hs.length
  refine .inr ⟨a, b, as, bs, rfl, rfl, st_ex e ha, st_ex e hb, by omega, fun z => ?_, fun _ z => ?_, fun _ _ p hp => ?_⟩
  · subst z
    cases hr
    exact ret1 e (.tup hb hs) k
  · subst z
    cases hs
    exact ret1 e (.tup ha (by rw [List.append_nil]; exact hr)) k
  · have g := Gr.new (o := .tup (as ++ bs)) e hp
    exact k _ _ _ _ g (.tup (.inl (.inl upd_same)) ((hr.append hs).ex g.ex)) rfl
theorem imu {i j : Int} (h : CMul i j) : OpD K rIMulG (.int i) (.int j) (· = .int (i * j)) := od_intC (g := fun i j => .int (i * j)) (h := fun i j => .int (i * j)) h fun G => .int _
theorem idi {i j : Int} (h : CDivW i j) : OpD K rIDivG (.int i) (.int j) (· = .int (i / j)) := od_intC (g := fun i j => .int (i / j)) (h := fun i j => .int (i / j)) h fun G => .int _
/-! ### sums, membership -/
theorem RpL.sumI {G : Hp} {vs : List V} {ns : List Int} (r : RpL K G vs (ns.map D.int)) : vs = ns.map V.int := RpL.ints_inv r
theorem cd_sum {ns : List Int} : CbD K (rSum K) [.lst (ns.map D.int)] (· = .int ns.sum) := fun G H vs Q e r k => by
  cases r with
  | cons ra rr =>
    cases rr
    obtain ⟨a, as, rfl, ha, hr⟩ := ra.lst_inv
    have := RpL.ints_inv hr
    subst this
    exact ⟨a, ns, rfl, .inl (.inl (e.l ha)), ret1 e (.int _) k⟩
theorem od_inL {neg : Bool} {x : D} {v : V} {ns : List Int} (hx : x.v = some v) (fx : flatV v = true) : OpD K (rInG K neg) x (.lst (ns.map D.int)) (· = .bl (if neg then !inV v (ns.map V.int) else inV v (ns.map V.int))) := fun G H v' w Q e r1 r2 k => by
  obtain ⟨a, as, rfl, ha, hr⟩ := r2.lst_inv
  have ev : v' = v := r1.sc hx
  have := RpL.ints_inv hr
  subst this
  subst ev
  have fs : (ns.map V.int).all flatV = true := by
    rw [List.all_eq_true]
    intro y hy
    obtain ⟨n, _, rfl⟩ := List.mem_map.mp hy
    rfl
  exact .inl ⟨a, _, rfl, .inl (.inl (.inl (e.l ha))), fx, fs, ret1 e (.bl _) k⟩
theorem od_inTI {neg : Bool} {x : D} {v : V} {ns : List Int} (hx : x.v = some v) (fx : flatV v = true) : OpD K (rInG K neg) x (.tup (ns.map D.int)) (· = .bl (if neg then !inV v (ns.map V.int) else inV v (ns.map V.int))) := fun G H v' w Q e r1 r2 k => by
  obtain ⟨a, as, rfl, ha, hr⟩ := r2.tup_inv
  have ev : v' = v := r1.sc hx
  have := RpL.ints_inv hr
  subst this
  subst ev
  have fs : (ns.map V.int).all flatV = true := by
    rw [List.all_eq_true]
    intro y hy
    obtain ⟨n, _, rfl⟩ := List.mem_map.mp hy
    rfl
  exact .inl ⟨a, _, rfl, .inr (st_ex e ha), fx, fs, ret1 e (.bl _) k⟩
end

/-! ### tuple(xs) of a list of one's own; a, b = [], [] -/
section
variable {K : PySem.W.Frag} {E : L2.St → XK} {W : WX} {Δ : En} {X : Addr → Prop} {post : Out → Prop}
theorem ev_tup_own {i : Nat} {ds : List D} (hi : Δ[i]? = some (Sl.own ds)) : Ev K E (tCB (rTupO K) (tCons (tVar i) tNil)) Δ (· = .tup ds) X := fun q G0 H0 G H σ Q s k kx => by
  obtain ⟨p, vs, h1, h2, h3, h4, h5, h6⟩ := s.rs.own i ds hi
  refine ⟨_, h1, p, vs, rfl, .inl ⟨.inl (.inl h2), fun l hl => ?_⟩⟩
  have g := Gr.new (o := .tup vs) s.sub hl
  exact k _ _ _ _ g.any (.tup (.inl (.inl upd_same)) (h3.ex g.ex)) rfl
theorem xs_par00 {i j : Nat} (k : post (.nx ((Δ.set i (.own [])).set j (.own [])))) : Xs K W (tPar i j (tCons (tLst tNil) (tCons (tLst tNil) tNil))) Δ post := fun q G0 H0 G H σ T s k1 k2 k3 k4 k5 => by
  refine ⟨Nat.zero_le _, fun p hp => ⟨Nat.zero_le _, fun r hr => ⟨_, _, rfl, ?_⟩⟩⟩
  exact k1 _ _ G _ (Exx.refl _) ((s.newMut hp .nil).newMut hr .nil) k
end

/-! ### try .. except X: -/
def tTry (K : PySem.W.Frag) (C : Value) (th : TS) (Wout : WX) (tb : WX → TS) : TS := fun D σ H => tb (wOnly K C (fun _ _ _ => th) Wout D) D σ H
section
variable {K : PySem.W.Frag} {W : WX} {Δ : En} {post : Out → Prop} {tb : WX → TS} {th : TS} {CS : Addr}
def tryP (K : PySem.W.Frag) (W : WX) (CS : Addr) (th : TS) (post : Out → Prop) : Out → Prop
  | .ex C Δ' => ∃ b, PySem.W.exmOne K (.ref C) (.ref CS) = some b ∧ (b = true → Xs K W th Δ' post) ∧ (b = false → post (.ex C Δ'))
  | o => post o
theorem xs_try (hb : ∀ W', Xs K W' (tb W') Δ (tryP K W CS th post)) : Xs K W (tTry K (.ref CS) th W tb) Δ post := fun q G0 H0 G H σ T s k1 k2 k3 k4 k5 =>
  hb (wOnly K (.ref CS) (fun _ _ _ => th) W T) q G0 H0 G H σ T s k1 k2 k3 k4 fun C σ' Δ' G' H' e s' ⟨b, h1, h2, h3⟩ => ⟨b, h1, fun hb a _ =>
    h2 hb q G0 H0 G' H' σ' T s' (fun σ2 Δ2 G2 H2 e2 s2 p2 => k1 σ2 Δ2 G2 H2 (e.trans e2) s2 p2) k2 (fun σ2 Δ2 G2 H2 e2 s2 p2 => k3 σ2 Δ2 G2 H2 (e.trans e2) s2 p2) (fun σ2 Δ2 G2 H2 e2 s2 p2 => k4 σ2 Δ2 G2 H2 (e.trans e2) s2 p2)
      fun C σ2 Δ2 G2 H2 e2 s2 p2 => k5 C σ2 Δ2 G2 H2 (e.trans e2) s2 p2, fun hb => k5 C σ' Δ' G' H' e s' (h3 hb)⟩
end
section
variable {X : Cx} {x : Str} {CS : Addr} {body suite : List Stmt} {b₀ : Stmt} {np pos pos' : Pos} {tb : WX → TS} {th : TS} {W : WX}
theorem ps_tryT (hs : X.stack = X.env :: X.outer) (hf : X.env.frame = some X.env.locals) (hg : Gl X x) (hm : X.mg x = some (.ref CS)) (tk : L2.Takes X W)
    (hb : ∀ (W2 : WX) (pn : List (Addr × Obj)) (xe : Value → Shared → Prop), L2.Takes (X.tr pn xe) W2 → PassesOwn (model X.prog X.w) X.A X.env xe → PSs (X.tr pn xe) body (tb W2))
    (hsu : ∀ (a : Addr) (oe : Obj) (pn : List (Addr × Obj)), PSs (X.suite a ((a, oe) :: pn)) (b₀ :: suite) th) (hd : (x == ("__debug__" : Str)) = false := by decide) :
    PS X (.Try body [.ExceptHandler (some (.Name x np)) none (b₀ :: suite) pos'] [] [] pos) (tTry X.K (.ref CS) th W tb) :=
  ps_try_only hs hf ⟨hg, hd, .inl hm⟩ tk hb fun a oe cls d pn _ _ => hsu a oe pn
/-- .. whose suite raises -/
theorem ps_tryN (hs : X.stack = X.env :: X.outer) (hf : X.env.frame = some X.env.locals) (hg : Gl X x) (hm : X.mg x = some (.ref CS)) (hpa : ∀ hd : Option Value, PassesOwnAt (model X.prog X.w) (X.A.mark hd) X.A X.env X.xe) (tk : L2.Takes X W)
    (hb : ∀ (W2 : WX) (pn : List (Addr × Obj)) (xe : Value → Shared → Prop), L2N.Takes (X.tr pn xe) W2 → PassesOwn (model X.prog X.w) X.A X.env xe → PSs (X.tr pn xe) body (tb W2))
    (hsu : ∀ (a : Addr) (oe : Obj) (pn : List (Addr × Obj)), L2.Takes (L2H.suiteX X a ((a, oe) :: pn)) W → L2H.HotC (L2H.suiteX X a ((a, oe) :: pn)) → PSs (L2H.suiteX X a ((a, oe) :: pn)) (b₀ :: suite) th) (hd : (x == ("__debug__" : Str)) = false := by decide) :
    PS X (.Try body [.ExceptHandler (some (.Name x np)) none (b₀ :: suite) pos'] [] [] pos) (tTry X.K (.ref CS) th W tb) :=
  L2H.ps_try_onlyX hs hf ⟨hg, hd, .inl hm⟩ hpa tk (fun W2 pn xe t _ p => hb W2 pn xe t p) fun a oe cls d pn _ _ t h => hsu a oe pn t h
/-- X('m') in such a suite -/
theorem pmk5_own {C : Addr} {bmB : List Value} {B newId initId : String} {m : Str} {j : Nat} {p p2 : Pos} (F : ExcBaseFacts B newId initId bmB) (q : PySem.W.excIn X.K C bmB newId = true) (gC : X.mg x = some (.ref C)) (kC : PySem.W.keepIn X.K (.ref C) = true) (r : Raises X (.ref C)) (hg : Gl X x)
    (hdb : (x == ("__debug__" : Str)) = false := by decide) : L2H.PMk5 X (.Call (.Name x p) [.Constant (.str m) j p2] [] pos) (fun _ H Q => Q (.ref C) none H) := fun pins s σ H Q I h => by
  refine wpAny_Call_Name_kw (ld_glob I hg gC ?_ hdb)
  refine PySem.W.callWith_K (h₀ := X.base) I.ok.mod.kin kC (thn ((pa_cons pe_str pa_nil : PA X [.Constant (.str m) j p2] (tCons (tC (.str m)) tNil)).run pos pins s σ H (fun vs H1 => vs = [V.str m] ∧ H = H1) I ⟨rfl, rfl⟩) fun us s1 hh => ?_)
  obtain ⟨vs, H1, I1, r1, ev, eH⟩ := hh
  subst ev eH
  refine ⟨I1.kIn, ?_⟩
  match us, r1 with
  | [u], .cons ru .nil =>
    show wpAny _ _ (call (.ref C) [u]) _ _ _
    obtain ⟨_, _, _, _, _, _, _, _, _, _, _, _, _, _, _, _, _, hC, hN, hni, T⟩ := L2.exc_obj I1.kIn q
    exact wpAny_call_exc_subT F T hC hN hni (fun h' e hm => L2H.mk_of5 I1 hm r h (I1.hok.gone hm.new)) (by show 1 ≤ sizeLine; exact szl)
end
/-! ### defs whose exceptions have no context -/
theorem flz_mono {B : Heap} {l : List Env} {a : Addr} {Z Z' : Obj → Prop} {h : Heap} (f : ∀ o, Z o → Z' o) (x : HandSPX.FlyingZ B l a Z h) : HandSPX.FlyingZ B l a Z' h := by
  obtain ⟨k1, k2, k3, oe, vs, T, oT, ts, he, hz, r⟩ := x
  exact ⟨k1, k2, k3, oe, vs, T, oT, ts, he, f _ hz, r⟩
theorem fnN {P : Program} {w : World} {K : PySem.W.Frag} {mg : Str → Option Value} {base : Heap} {k : Nat} {f : Addr} {fd : FuncData} {ps : List Str} {sp : Sp} (F : FnOk P w K mg base (L2N.CX P w) k f fd ps sp) : FnOk P w K mg base (L2.CX P w) k f fd ps sp := by
  refine ⟨F.len, fun A outer s H args us vs Q E hr e0 hb r hsp => codeAny_mono (F.run A outer s H args us vs Q E hr e0 hb r hsp) fun res s' hq => ?_⟩
  cases res with
  | ok fl => cases fl <;> exact hq
  | error e =>
    obtain ⟨a, B, H', cls, d, rfl, fl, z⟩ := (show L2N.CX P w outer H s E e s' from hq)
    exact ⟨a, B, H', cls, d, rfl, flz_mono (fun o => L2N.Zn.zc) fl, z⟩
structure CalN (P : Program) (w : World) (K : PySem.W.Frag) (mg : Str → Option Value) (base : Heap) (k : Nat) (x : Str) (sp : Sp) : Prop where
  ex : ∃ (f : Addr) (fd : FuncData) (ps : List Str), FnOk P w K mg base (L2N.CX P w) k f fd ps sp ∧ mg x = some (.ref f) ∧ PySem.W.keepIn K (.ref f) = true ∧ Binds K fd ps []
theorem CalN.cal {P : Program} {w : World} {K : PySem.W.Frag} {mg : Str → Option Value} {base : Heap} {k : Nat} {x : Str} {sp : Sp} (c : CalN P w K mg base k x sp) : Cal P w K mg base k x sp := by
  obtain ⟨f, fd, ps, F, r⟩ := c.ex
  exact ⟨f, fd, ps, fnN F, r⟩
section
variable {X : Cx} {k j : Nat} {x : Str} {sp : Sp} {E : L2.St → XK} {p pos : Pos} {e : Expr} {es : List Expr} {t : TA}
theorem pe_calN (c : CalN X.prog X.w X.K X.mg X.base k x sp) (hr : Room j X.A) (hk : k ≤ j) (hg : Gl X x) (hx : ∀ σ, PassesAt (L2N.CX X.prog X.w) X σ (E σ)) (ha : PA X (e :: es) t)
    (hdb : (x == ("__debug__" : Str)) = false := by decide) (he : starEach (e :: es) X.env = (false, eval e X.env) :: starEach es X.env := by rfl) (hpl : (backTo pos (starEach es X.env)).any (·.1) = false := by rfl) :
    PE X (.Call (.Name x p) (e :: es) [] pos) (tCallS sp E t) := by
  obtain ⟨f, fd, ps, F, hm, kp, b⟩ := c.ex
  exact pe_callS F (hr.mono hk) hg hm kp b hx ha hdb he hpl
end
/-! ### the law's frame, with statements behind the loop -/
section
variable {P : Program} {w : World} {K : PySem.W.Frag} {mg : Str → Option Value} {base : Heap}
theorem sta_dice {T : Tb} {n : Nat} {σ : L2.St} {H : Hp} {d : Addr} (hl : σ.length = n + 2) (h1 : σ[1]? = some (some (V.ref d))) (hd : DiceAt H d) (ht : LamX.Tabs T H) : Sta K (some (d, T)) (fun _ => none) H (fun _ => none) H σ (Sl.no :: Sl.dice T :: List.replicate n Sl.no) := by
  have no : ∀ {i : Nat} {x : Sl}, (Sl.no :: Sl.dice T :: List.replicate n Sl.no)[i]? = some x → x = .no ∨ (i = 1 ∧ x = .dice T) := fun {i x} h => by
    match i with
    | 0 => exact .inl (Option.some.inj h).symm
    | 1 => exact .inr ⟨rfl, (Option.some.inj h).symm⟩
    | i + 2 =>
      have h' : (List.replicate n Sl.no)[i]? = some x := by simpa using h
      rw [List.getElem?_replicate] at h'
      split at h'
      · exact .inl (Option.some.inj h').symm
      · cases h'
  refine Sta.start ⟨emp_sub, by simp [hl], fun b T' e => ?_, fun i d' h => ?_, fun i bs h => ?_, fun i j bs cs p h => ?_, fun i T' h => ?_⟩
  · cases e
    exact ⟨fun _ e => (nomatch e), hd, ht⟩
  · rcases no h with z | ⟨_, z⟩ <;> cases z
  · rcases no h with z | ⟨_, z⟩ <;> cases z
  · rcases no h with z | ⟨_, z⟩ <;> cases z
  · rcases no h with z | ⟨z1, z⟩
    · cases z
    · cases z
      subst z1
      exact ⟨d, rfl, h1⟩
def lPost (T : Tb) (n : Nat) : Out → Prop
  | .nx Δ => Δ[1]? = some (Sl.dice T) ∧ Δ.length = n + 2
  | .ct Δ => Δ[1]? = some (Sl.dice T) ∧ Δ.length = n + 2
  | _ => False
theorem law_frame2 {W : WX} {N : List Str} {T : Tb} {cs : List Addr} {tb tr : TS} {vs : List V} {H : Hp} {Q : VK} {E : XK} {n : Nat} (h : spLaw K cs vs H Q E) (hT : ∀ p ∈ T, p.1 ∈ cs) (hN : N.length = n + 2)
    (hb : Xs K W tb (Sl.no :: Sl.dice T :: List.replicate n Sl.no) (lPost T n)) (hf : Xs K W tr (Sl.no :: Sl.dice T :: List.replicate n Sl.no) (· = .rt (.bl true))) :
    (tSeq (tFor (iSeq K (tCallS (spRounds K) (WE W) (tCons (tVar 0) (tCons (tC (.int 1)) tNil)))) (gName 1) tb) tr) { nx := fun _ H' => Q .non H', rt := Q } (L2.start N vs) H := by
  obtain ⟨a, ns, rfl, hS, hcs, k⟩ := h
  have hT0 : LamX.Tabs T H := fun p hp => .nil (hcs _ (hT p hp))
  have hlen : (L2.start N [V.ref a]).length = n + 2 := by simp [L2.start, hN]
  refine .inl ⟨.ref a, start_get rfl, a, ns, rfl, hS, fun l d H1 e1 tk1 hl hd => ⟨l, rfl, ⟨[.ref d], .inl (.inl hl)⟩, ?_⟩⟩
  have hld : ∀ {H' : Hp}, H' l = some (.lst [.ref d]) → DiceAt H' d → l ≠ d := fun h1 ⟨x, y, z, h2⟩ e => by
    rw [e, h2] at h1
    cases h1
  refine ⟨fun i m σ' H' => m = 1 - i ∧ i ≤ 1 ∧ H' l = some (.lst [.ref d]) ∧ DiceAt H' d ∧ LamX.Tabs T H' ∧ σ'.length = n + 2 ∧ (i = 1 → σ'[1]? = some (some (.ref d))), ⟨1, rfl, by decide, hl, hd, tk1 T hT0, hlen, fun z => (nomatch z)⟩, ?_⟩
  rintro i m σ' H' ⟨rfl, hi, h1, h2, h3, h5, h6⟩
  by_cases hi0 : i = 0
  · subst hi0
    refine .inr ⟨⟨[.ref d], .ref d, .inl (.inl h1), rfl⟩, fun σ2 H2 => H2 l = some (.lst [.ref d]) ∧ DiceAt H2 d ∧ LamX.Tabs T H2 ∧ σ2.length = n + 2 ∧ σ2[1]? = some (some (.ref d)), fun σ2 H2 ⟨a1, a2, a3, a4, a5⟩ => ⟨0, by decide, rfl, Nat.le_refl _, a1, a2, a3, a4, fun _ => a5⟩, fun x H2 y => ?_⟩
    obtain ⟨e, y⟩ := y
    subst e
    have ex : V.ref d = x := by
      have := y [.ref d] (.inl (.inl h1))
      simpa using this
    subst ex
    have st : Sta K (some (d, T)) (fun _ => none) H2 (fun _ => none) H2 (σ'.set 1 (some (V.ref d))) (Sl.no :: Sl.dice T :: List.replicate n Sl.no) := sta_dice (by simp [h5]) (List.getElem?_set_self (by omega)) h2 h3
    have fin : ∀ {σ2 : L2.St} {Δ2 : En} {G2 H3 : Hp}, Sta K (some (d, T)) (fun _ => none) H2 G2 H3 σ2 Δ2 → (Δ2[1]? = some (Sl.dice T) ∧ Δ2.length = n + 2) → H3 l = some (.lst [.ref d]) ∧ DiceAt H3 d ∧ LamX.Tabs T H3 ∧ σ2.length = n + 2 ∧ σ2[1]? = some (some (.ref d)) := fun s p => by
      obtain ⟨b1, b2⟩ := s.gr.dq d T rfl ⟨h2, h3⟩
      refine ⟨s.gr.kl (fun T' z => ?_) h1, b1, b2, by rw [s.rs.len, p.2], ?_⟩
      · have e : (d, T) = (l, T') := Option.some.inj z
        exact hld h1 h2 (congrArg Prod.fst e).symm
      · obtain ⟨a', e, e2⟩ := s.rs.dice 1 T p.1
        cases e
        exact e2
    exact hb _ _ _ _ _ _ _ st (fun _ _ _ _ _ s p => fin s p) (fun _ _ _ _ _ _ z => z.elim) (fun _ _ _ _ _ _ z => z.elim) (fun _ _ _ _ _ s p => fin s p) fun _ _ _ _ _ _ _ z => z.elim
  · have e : i = 1 := by omega
    subst e
    refine .inl ⟨⟨[.ref d], .inl (.inl h1), Nat.le_refl _⟩, ?_⟩
    refine hf _ _ _ _ _ _ _ (sta_dice (K := K) h5 (h6 rfl) h2 h3) (fun _ _ _ _ _ _ z => nomatch z) (fun v d' G' H2 g r z => ?_) (fun _ _ _ _ _ _ z => nomatch z) (fun _ _ _ _ _ _ z => nomatch z) fun _ _ _ _ _ _ _ z => nomatch z
    cases z
    cases r
    exact k H2
end
end Ts


/-! Promises by families; numbers as bytes (fixed, number_from, natural, natural_from, checksum). -/
namespace Ts
open PySem PySem.Spec PyProof.Rows L2

/-! ### a promise for each i -/
def spI (K : PySem.W.Frag) {ι : Type} (args : ι → List D) (pre : ι → Prop) (res : ι → Res) : Sp := fun vs H Q E => ∃ (i : ι) (G : Hp), Exx G H ∧ RpL K G vs (args i) ∧ pre i ∧
  (∀ (v : V) (d : D) (G' H' : Hp), Gr none G H G' H' → Rp K G' v d → res i = .ret d → Q v H') ∧ (∀ (C : Addr) (G' H' : Hp), Gr none G H G' H' → res i = .exc C → E (.ref C) none H')
def fnR (r : Res) : Out → Prop
  | .nx _ => r = .ret .non
  | .rt d => r = .ret d
  | .ex C _ => r = .exc C
  | _ => False
section
variable {K : PySem.W.Frag} {E : L2.St → XK} {Δ : En} {R : D → Prop} {X : Addr → Prop} {ι : Type} {args : ι → List D} {pre : ι → Prop} {res : ι → Res} {tr : TA}
theorem ev_callI (i : ι) (h : Ea K E tr Δ (· = args i) X) (hp : pre i) (hr : ∀ d, res i = .ret d → R d) (hx : ∀ C, res i = .exc C → X C) : Ev K E (tCallS (spI K args pre res) E tr) Δ R X := fun q G0 H0 G H σ Q s k kx =>
  h q G0 H0 G H σ _ s (fun vs ds G1 H1 g1 r1 p1 => ⟨i, G1, g1.sub, by rw [← p1]; exact r1, hp, fun v d G' H' g rd po => k v d G' H' (s.tr g1 g.any) rd (hr d po), fun C G' H' g po => kx C G' H' (s.tr g1 g.any) (hx C po)⟩) kx
theorem ev1_callI (i : ι) {d : D} (h : Ea K E tr Δ (· = args i) X) (hp : pre i) (hr : res i = .ret d) : Ev K E (tCallS (spI K args pre res) E tr) Δ (· = d) X :=
  ev_callI i h hp (fun e z => by rw [hr] at z; injection z with z; exact z.symm) fun C z => by rw [hr] at z; cases z
variable {P : Program} {w : World} {mg : Str → Option Value} {base : Heap} {x qual : Str} {params : Arguments} {body : List Stmt} {scope : Scope} {dvs : List V} {kws : List (Str × V)} {f : Addr} {fd : FuncData} {N ps : List Str} {k : Nat}
theorem fn_I {CX : CXT} {t : WX → TS} (F : FunD K x qual params body scope dvs kws f fd) (S : FnScope N ps scope) (hp : ∀ i, (args i).length = ps.length)
    (der : ∀ (cdv : Value) (A : Around) (outer : List Env) (s : Shared) (H : Hp) (E : XK), Room k (A.deeper (envOfC qual scope s.heap.objs.size f cdv)) → PSs (cxOf CX P w K mg base N qual scope f cdv A outer s H E) body (t (wDef E)))
    (h : ∀ (W : WX) i, pre i → Xs K W (t W) (argsE N (args i)) (fnR (res i))) : FnOk P w K mg base CX (k + 1) f fd ps (spI K args pre res) := by
  have hNl : ps.length ≤ N.length := by have := congrArg List.length S.pre; rw [List.length_take] at this; omega
  refine F.ok S (fun vs H Q E hsp => ?_) fun cdv A outer s H vs Q E hr hsp => ⟨t (wDef E), der cdv A outer s H E hr, ?_⟩
  · obtain ⟨i, G, _, r, _⟩ := hsp
    rw [r.length]; exact hp i
  · obtain ⟨i, G, e, r, p, k1, k2⟩ := hsp
    have hl : (args i).length ≤ N.length := by rw [hp i]; exact hNl
    exact h (wDef E) i p none G H G H (L2.start N vs) _ (sta_args e r hl) (fun σ' Δ' G' H' e' s' q => k1 .non .non G' H' s'.gr .non q) (fun v d G' H' g rv q => k1 v d G' H' g rv q) (fun _ _ _ _ _ _ z => False.elim z) (fun _ _ _ _ _ _ z => False.elim z) fun C σ' Δ' G' H' e' s' q => k2 C G' H' s'.gr q
end
theorem then_nx {K : PySem.W.Frag} {W : WX} {u : TS} {Δ : En} {post : Out → Prop} (h : Xs K W u Δ post) : thenP K W u post (.nx Δ) := h
/-! plain lists -/
theorem get_ex {α : Type} {xs : List α} {i : Nat} (h : i < xs.length) : ∃ x, xs[i]? = some x := ⟨_, List.getElem?_eq_getElem h⟩
theorem drop_at {α : Type} {xs : List α} {i : Nat} {x : α} (h : xs[i]? = some x) : xs.drop i = x :: xs.drop (i + 1) := by
  obtain ⟨hl, e⟩ := List.getElem?_eq_some_iff.mp h
  rw [List.drop_eq_getElem_cons hl, e]
theorem take_at {α : Type} {xs : List α} {i : Nat} {x : α} (h : xs[i]? = some x) : xs.take (i + 1) = xs.take i ++ [x] := by rw [List.take_add_one, h]; rfl
theorem map_get {α β : Type} {f : α → β} {xs : List α} {i : Nat} {x : α} (h : xs[i]? = some x) : (xs.map f)[i]? = some (f x) := by rw [List.getElem?_map, h]; rfl
theorem of_map_get {α β : Type} {f : α → β} {xs : List α} {i : Nat} {y : β} (h : (xs.map f)[i]? = some y) : ∃ x, xs[i]? = some x ∧ y = f x := by
  rw [List.getElem?_map] at h
  cases e : xs[i]? with
  | none => rw [e] at h; cases h
  | some x =>
    rw [e] at h
    exact ⟨x, rfl, (Option.some.inj h).symm⟩
def bD (bs : List Int) : D := .tup (bs.map D.int)
theorem bD_app {a b : List Int} : D.tup (a.map D.int ++ b.map D.int) = bD (a ++ b) := by rw [← List.map_append]; rfl
theorem bD_okN {n : Nat} (a : List Int) : okN (n + 1) (bD a) = true := by
  show (a.map D.int).all (okN n) = true
  rw [List.all_eq_true]
  intro d hd
  obtain ⟨x, _, rfl⟩ := List.mem_map.mp hd
  cases n <;> rfl
theorem bD_ok (a : List Int) : (bD a).ok = true := okN_ok (n := 1) (bD_okN (n := 0) a)
/-! ### the functions -/
/-- the m lowest bytes, the lowest first -/
def low : Nat → Int → List Int
  | 0, _ => []
  | m + 1, n => n % 256 :: low m (n / 256)
def shr : Nat → Int → Int
  | 0, n => n
  | j + 1, n => shr j n / 256
theorem shr_s : ∀ (j : Nat) (n : Int), shr j (n / 256) = shr (j + 1) n
  | 0, _ => rfl
  | j + 1, n => by
    show shr j (n / 256) / 256 = shr (j + 1) n / 256
    rw [shr_s j n]
theorem low_s : ∀ (j : Nat) (n : Int), low (j + 1) n = low j n ++ [shr j n % 256]
  | 0, _ => rfl
  | j + 1, n => by
    show n % 256 :: low (j + 1) (n / 256) = n % 256 :: low j (n / 256) ++ [shr (j + 1) n % 256]
    rw [low_s j (n / 256), shr_s]
    rfl
theorem low_len : ∀ (m : Nat) (n : Int), (low m n).length = m
  | 0, _ => rfl
  | m + 1, n => by simp [low, low_len m]
def fixedI (n : Int) (m : Nat) : List Int := (low m n).reverse
theorem fixedI_len (n : Int) (m : Nat) : (fixedI n m).length = m := by simp [fixedI, low_len]
def numI (bs : List Int) : Int := bs.foldl (fun f x => f * 256 + x) 0
def csP : Int × Int → Int → Int × Int := fun p x => ((p.1 + x) % 65521, (p.2 + (p.1 + x) % 65521) % 65521)
def cs2 (bs : List Int) : Int × Int := bs.foldl csP (1, 0)
def csumI (bs : List Int) : List Int := fixedI ((cs2 bs).2 * 65536 + (cs2 bs).1) 4
def natI (n : Nat) : List Int := if n < 128 then [(n : Int)] else (128 + (n : Int) % 128) :: natI (n / 128)
theorem natI_len : ∀ (k n : Nat), n < 128 ^ (k + 1) → (natI n).length ≤ k + 1
  | 0, n, h => by
    rw [natI, if_pos (by simpa using h)]
    exact Nat.le_refl _
  | k + 1, n, h => by
    rw [natI]
    split
    · simp
    · have := natI_len k (n / 128) (by
        rw [Nat.pow_succ] at h
        exact Nat.div_lt_of_lt_mul (by rw [Nat.mul_comm]; exact h))
      simp only [List.length_cons]
      omega
/-- what natural_from finds: the number, the place behind it -/
def nf : List Int → Int → Int → Nat → Option (Int × Nat)
  | [], _, _, _ => none
  | x :: xs, f, w, k => if x < 128 then (if x = 0 ∧ 128 < w * 128 then none else some (f + x % 128 * w, k + 1)) else nf xs (f + x % 128 * w) (w * 128) (k + 1)
section
variable {K : PySem.W.Frag} {W : WX}
def t_fixed (K : PySem.W.Frag) (W : WX) : TS :=
  (tSeq (tAsg (tLst tNil) (gName 2))
  (tSeq (tFor (iRng1 (tCons (tVar 1) tNil)) (gName 3) (tSeq (tDrop (tBM K "list" rAppend (tVar 2) (tCons (tOp rModG (tVar 0) (tC (.int 256))) tNil)))
  (tAug 0 (tC (.int 256)) rIDivG)))
  (tRet (tCB (rTupO K) (tCons (tRevL K (tVar 2)) tNil)))))
abbrev fxA : Int × Nat → List D := fun i => [.int i.1, .int i.2]
abbrev spFx (K : PySem.W.Frag) : Sp := spI K fxA (fun i => i.2 ≤ 1000) fun i => .ret (bD (fixedI i.1 i.2))
theorem fixed_xs (i : Int × Nat) (h : i.2 ≤ 1000) : Xs K W (t_fixed K W) (argsE ["number", "many", "found", "step"] (fxA i)) (fnR (.ret (bD (fixedI i.1 i.2)))) := by
  obtain ⟨n, m⟩ := i
  replace h : m ≤ 1000 := h
  refine xs_seq (xs_new0 ?_)
  refine then_nx ?_
  refine xs_seq (xs1_for (items := rngD 0 1 m) (ew_rng1 ((ev_var (d := .int m) rfl).imp fun d e => ⟨m, e, by omega, by omega, by rw [Int.toNat_natCast]⟩)) (fun j Δ' => ∃ z, Δ' = [.dat (.int (shr j n)), .dat (.int m), .own ((low j n).map D.int), z]) ⟨_, rfl⟩ ?_ ?_)
  · rintro j d Δ' hd ⟨z, rfl⟩
    obtain ⟨hj, rfl⟩ := rngD_of hd
    refine ⟨[3], _, tg_name, ?_⟩
    refine xs_seq (xs1_app rfl (szlt (by rw [List.length_map, low_len]; omega)) (ev1_op (ev_var (d := .int (shr j n)) rfl) ev_int (od_mod (by decide))) ?_)
    refine then_nx ?_
    refine xs1_aug (x := .int (shr j n)) rfl ev_int (idi (cdivw (by decide) (by decide))) ?_
    refine ⟨.dat (.int (0 + (j : Nat) * 1)), ?_⟩
    rw [low_s, List.map_append]
    rfl
  · rintro Δ' ⟨z, rfl⟩
    rw [rngD_len]
    refine then_nx ?_
    refine xs_freeze (i := 2) rfl (xs1_ret (ev1_cb (ea1_cons (ev1_revL (ev_var (d := .lst ((low m n).map D.int)) rfl)) ea_nil) cd_tupL) ?_)
    show _ = _
    rw [← List.map_reverse]
    rfl
def t_number_from (K : PySem.W.Frag) (W : WX) : TS :=
  (tSeq (tAsg (tC (.int 0)) (gName 1))
  (tSeq (tFor (iSeq K (tVar 0)) (gName 2) (tAsg (tOp (rAddG K) (tOp rMulG (tVar 1) (tC (.int 256))) (tVar 2)) (gName 1)))
  (tRet (tVar 1))))
abbrev spNu (K : PySem.W.Frag) : Sp := spI K (fun bs : List Int => [bD bs]) (fun _ => True) fun bs => .ret (.int (numI bs))
theorem number_xs (bs : List Int) : Xs K W (t_number_from K W) (argsE ["data", "found", "one"] [bD bs]) (fnR (.ret (.int (numI bs)))) := by
  refine xs_seq (xs1_asg ev_int ?_)
  refine then_nx ?_
  refine xs_seq (xs1_for (items := bs.map D.int) (ew_inr (ew_inl (ew_tup ((ev_var (d := bD bs) rfl).imp fun d e => ⟨_, e, rfl⟩)))) (fun i Δ' => ∃ z, Δ' = [.dat (bD bs), .dat (.int (numI (bs.take i))), z]) ⟨_, rfl⟩ ?_ ?_)
  · rintro i d Δ' hd ⟨z, rfl⟩
    obtain ⟨x, hx, rfl⟩ := of_map_get hd
    refine ⟨[2], _, tg_name, ?_⟩
    refine xs1_asg (ev1_op (ev1_op (ev_var (d := .int (numI (bs.take i))) rfl) ev_int (od_mul (.inr ⟨by decide, by decide⟩))) (ev_var (d := .int x) rfl) od_add) ⟨.dat (.int x), ?_⟩
    rw [take_at hx]
    unfold numI
    rw [List.foldl_append]
    rfl
  · rintro Δ' ⟨z, rfl⟩
    refine xs1_ret (ev_var rfl) ?_
    rw [List.length_map, List.take_length]
    rfl
def t_checksum (K : PySem.W.Frag) (W : WX) (sp_fixed : Sp) : TS :=
  (tSeq (tAsg (tTup (tCons (tC (.int 1)) (tCons (tC (.int 0)) tNil))) (gTup K 2 (gCons (gName 1) (gCons (gName 2) gNil))))
  (tSeq (tFor (iSeq K (tVar 0)) (gName 3) (tSeq (tAsg (tOp rModG (tOp (rAddG K) (tVar 1) (tVar 3)) (tC (.int 65521))) (gName 1))
  (tAsg (tOp rModG (tOp (rAddG K) (tVar 2) (tVar 1)) (tC (.int 65521))) (gName 2))))
  (tRet (tCallS sp_fixed (WE W) (tCons (tOp (rAddG K) (tOp rMulG (tVar 2) (tC (.int 65536))) (tVar 1)) (tCons (tC (.int 4)) tNil))))))
abbrev spCs (K : PySem.W.Frag) : Sp := spI K (fun bs : List Int => [bD bs]) (fun _ => True) fun bs => .ret (bD (csumI bs))
theorem cs2_s {bs : List Int} {i : Nat} {x : Int} (h : bs[i]? = some x) : cs2 (bs.take (i + 1)) = csP (cs2 (bs.take i)) x := by
  rw [take_at h]
  unfold cs2
  rw [List.foldl_append]
  rfl
/-- the two sums, over three ways to write them -/
theorem sums_loop {bs : List Int} {post : Out → Prop} {Δ : En} {u : TS} {n : Nat} (e : Δ = [.dat (bD bs), .dat (.int 1), .dat (.int 0)] ++ List.replicate n .no) (hn : 0 < n)
    (hk : ∀ z, Xs K W u ([.dat (bD bs), .dat (.int (cs2 bs).1), .dat (.int (cs2 bs).2), z] ++ List.replicate (n - 1) .no) post) :
    Xs K W (tSeq (tFor (iSeq K (tVar 0)) (gName 3) (tSeq (tAsg (tOp rModG (tOp (rAddG K) (tVar 1) (tVar 3)) (tC (.int 65521))) (gName 1)) (tAsg (tOp rModG (tOp (rAddG K) (tVar 2) (tVar 1)) (tC (.int 65521))) (gName 2)))) u) Δ post := by
  subst e
  obtain ⟨n, rfl⟩ : ∃ k, n = k + 1 := ⟨n - 1, by omega⟩
  refine xs_seq (xs1_for (items := bs.map D.int) (ew_inr (ew_inl (ew_tup ((ev_var (d := bD bs) rfl).imp fun d e => ⟨_, e, rfl⟩)))) (fun i Δ' => ∃ z, Δ' = [.dat (bD bs), .dat (.int (cs2 (bs.take i)).1), .dat (.int (cs2 (bs.take i)).2), z] ++ List.replicate n .no) ⟨.no, rfl⟩ ?_ ?_)
  · rintro i d Δ' hd ⟨z, rfl⟩
    obtain ⟨x, hx, rfl⟩ := of_map_get hd
    refine ⟨[3], _, tg_name, ?_⟩
    refine xs_seq (xs1_asg (ev1_op (ev1_op (ev_var (d := .int (cs2 (bs.take i)).1) rfl) (ev_var (d := .int x) rfl) od_add) ev_int (od_mod (by decide))) ?_)
    refine then_nx ?_
    refine xs1_asg (ev1_op (ev1_op (ev_var (d := .int (cs2 (bs.take i)).2) rfl) (ev_var (d := .int (((cs2 (bs.take i)).1 + x) % 65521)) rfl) od_add) ev_int (od_mod (by decide))) ⟨.dat (.int x), ?_⟩
    rw [cs2_s hx]
    rfl
  · rintro Δ' ⟨z, rfl⟩
    rw [List.length_map, List.take_length]
    exact hk z
theorem sums_loopI {bs : List Int} {post : Out → Prop} {Δ : En} {u : TS} {n : Nat} (e : Δ = [.dat (bD bs), .dat (.int 1), .dat (.int 0)] ++ List.replicate n .no) (hn : 0 < n)
    (hk : ∀ z, Xs K W u ([.dat (bD bs), .dat (.int (cs2 bs).1), .dat (.int (cs2 bs).2), z] ++ List.replicate (n - 1) .no) post) :
    Xs K W (tSeq (tFor (iSeq K (tVar 0)) (gName 3) (tSeq (tAsg (tOp rModG (tCB rInt1 (tCons (tOp (rAddG K) (tVar 1) (tVar 3)) tNil)) (tC (.int 65521))) (gName 1)) (tAsg (tOp rModG (tCB rInt1 (tCons (tOp (rAddG K) (tVar 2) (tVar 1)) tNil)) (tC (.int 65521))) (gName 2)))) u) Δ post := by
  subst e
  obtain ⟨n, rfl⟩ : ∃ k, n = k + 1 := ⟨n - 1, by omega⟩
  refine xs_seq (xs1_for (items := bs.map D.int) (ew_inr (ew_inl (ew_tup ((ev_var (d := bD bs) rfl).imp fun d e => ⟨_, e, rfl⟩)))) (fun i Δ' => ∃ z, Δ' = [.dat (bD bs), .dat (.int (cs2 (bs.take i)).1), .dat (.int (cs2 (bs.take i)).2), z] ++ List.replicate n .no) ⟨.no, rfl⟩ ?_ ?_)
  · rintro i d Δ' hd ⟨z, rfl⟩
    obtain ⟨x, hx, rfl⟩ := of_map_get hd
    refine ⟨[3], _, tg_name, ?_⟩
    refine xs_seq (xs1_asg (ev1_op (ev1_cb (ea1_cons (ev1_op (ev_var (d := .int (cs2 (bs.take i)).1) rfl) (ev_var (d := .int x) rfl) od_add) ea_nil) cd_intI) ev_int (od_mod (by decide))) ?_)
    refine then_nx ?_
    refine xs1_asg (ev1_op (ev1_cb (ea1_cons (ev1_op (ev_var (d := .int (cs2 (bs.take i)).2) rfl) (ev_var (d := .int (((cs2 (bs.take i)).1 + x) % 65521)) rfl) od_add) ea_nil) cd_intI) ev_int (od_mod (by decide))) ⟨.dat (.int x), ?_⟩
    rw [cs2_s hx]
    rfl
  · rintro Δ' ⟨z, rfl⟩
    rw [List.length_map, List.take_length]
    exact hk z
theorem checksum_xs (bs : List Int) : Xs K W (t_checksum K W (spFx K)) (argsE ["data", "first", "second", "one"] [bD bs]) (fnR (.ret (bD (csumI bs)))) := by
  refine xs_seq (xs1_asgT (ev1_tup (ea1_cons ev_int (ea1_cons ev_int ea_nil))) tg2 ?_)
  refine then_nx (sums_loop (n := 1) rfl (by decide) fun z => ?_)
  exact xs1_ret (ev1_callI ((cs2 bs).2 * 65536 + (cs2 bs).1, 4) (ea1_cons (ev1_op (ev1_op (ev_var rfl) ev_int (od_mul (.inr ⟨by decide, by decide⟩))) (ev_var rfl) od_add) (ea1_cons ev_int ea_nil)) (show (4 : Nat) ≤ 1000 by decide) rfl) rfl
def t_natural (K : PySem.W.Frag) (W : WX) : TS :=
  (tSeq (tAsg (tLst tNil) (gName 1))
  (tSeq (tWhile (tTest (tOp rGeG (tVar 0) (tC (.int 128)))) (tSeq (tDrop (tBM K "list" rAppend (tVar 1) (tCons (tOp (rAddG K) (tC (.int 128)) (tOp rModG (tVar 0) (tC (.int 128)))) tNil)))
  (tAug 0 (tC (.int 128)) rIDivG)))
  (tRet (tOp (rAddG K) (tCB (rTupO K) (tCons (tVar 1) tNil)) (tTup (tCons (tVar 0) tNil))))))
abbrev spNa (K : PySem.W.Frag) : Sp := spI K (fun n : Nat => [.int n]) (fun n => n < 2 ^ 64) fun n => .ret (bD (natI n))
theorem natI_le {n : Nat} (h : n < 2 ^ 64) : (natI n).length ≤ 10 := natI_len 9 n (Nat.lt_of_lt_of_le h (by decide))
theorem natural_xs (n : Nat) (h : n < 2 ^ 64) : Xs K W (t_natural K W) (argsE ["number", "found"] [.int n]) (fnR (.ret (bD (natI n)))) := by
  refine xs_seq (xs_new0 ?_)
  refine then_nx ?_
  refine xs_seq (xs_while (fun m Δ' => ∃ acc : List Int, Δ' = [.dat (.int m), .own (acc.map D.int)] ∧ natI n = acc ++ natI m) n ⟨[], rfl, rfl⟩ ?_)
  rintro m Δ' ⟨acc, rfl, hm⟩
  have hl : acc.length ≤ 10 := by
    have := natI_le h
    rw [hm, List.length_append] at this
    omega
  refine ⟨(· = decide ((128 : Int) ≤ m)), fun _ => False, et1_val (ev1_op (ev_var (d := .int m) rfl) ev_int od_ge), fun _ z => z.elim, fun hb => ?_, fun hb => ?_⟩
  · have hc : 128 ≤ m := by have := of_decide_eq_true hb.symm; omega
    refine xs_seq (xs1_app rfl (szlt (by rw [List.length_map]; omega)) (ev1_op ev_int (ev1_op (ev_var (d := .int m) rfl) ev_int (od_mod (by decide))) od_add) ?_)
    refine then_nx ?_
    refine xs1_aug (x := .int m) rfl ev_int (idi (cdivw (by decide) (by decide))) ?_
    refine ⟨m / 128, by omega, acc ++ [128 + (m : Int) % 128], ?_, ?_⟩
    · rw [List.map_append, Int.natCast_ediv]
      rfl
    · rw [hm, natI, if_neg (by omega)]
      simp
  · have hc : m < 128 := by have := of_decide_eq_false hb.symm; omega
    refine then_nx ?_
    refine xs1_ret (ev1_op (ev_tup_own (ds := acc.map D.int) rfl) (ev1_tup (ea1_cons (ev_var (d := .int m) rfl) ea_nil)) (od_catT (szl (by rw [List.length_map]; simp; omega)))) ?_
    show _ = _
    rw [hm, natI, if_pos hc, bD, List.map_append]
    rfl
def t_natural_from (K : PySem.W.Frag) (W : WX) : TS :=
  (tSeq (tAsg (tTup (tCons (tC (.int 0)) (tCons (tC (.int 1)) tNil))) (gTup K 2 (gCons (gName 2) (gCons (gName 3) gNil))))
  (tWhile (tB (tC (.bl true))) (tSeq (tIfS (tTest (tOp rGeG (tVar 1) (tCB (rLenC K) (tCons (tVar 0) tNil)))) (fun _ σ H => W (.ref (He.ga K "RecordFault")) none σ H) tNext)
  (tSeq (tAsg (tOp (rIx K) (tVar 0) (tVar 1)) (gName 4))
  (tSeq (tAug 1 (tC (.int 1)) (rIAddA K))
  (tSeq (tAug 2 (tOp rMulG (tOp rModG (tVar 4) (tC (.int 128))) (tVar 3)) (rIAddA K))
  (tSeq (tAug 3 (tC (.int 128)) rIMulG)
  (tIfS (tTest (tOp (rLtG K) (tVar 4) (tC (.int 128)))) (tSeq (tIfS (tAnd (tTest (tOp (rEqG K) (tVar 4) (tC (.int 0)))) (tTest (tOp rGtG (tVar 3) (tC (.int 128))))) (fun _ σ H => W (.ref (He.ga K "RecordFault")) none σ H) tNext)
  (tRet (tTup (tCons (tVar 2) (tCons (tVar 1) tNil))))) tNext))))))))
abbrev nfA : List Int × Nat → List D := fun i => [bD i.1, .int i.2]
def nfD (p : Int × Nat) : D := .tup [.int p.1, .int p.2]
def nfR (C : Addr) (i : List Int × Nat) : Res := match nf (i.1.drop i.2) 0 1 i.2 with
  | some p => .ret (nfD p)
  | none => .exc C
abbrev spNf (K : PySem.W.Frag) : Sp := spI K nfA (fun i => i.2 ≤ i.1.length) (nfR (He.ga K "RecordFault"))
theorem small128 (x : Int) : -(2 ^ 64) < x % 128 ∧ x % 128 < 2 ^ 64 := by
  have h1 := Int.emod_nonneg x (show (128 : Int) ≠ 0 by decide)
  have h2 := Int.emod_lt_of_pos x (show (0 : Int) < 128 by decide)
  omega
theorem nfrom_xs (i : List Int × Nat) (h : i.2 ≤ i.1.length) : Xs K W (t_natural_from K W) (argsE ["data", "place", "found", "weight", "one"] (nfA i)) (fnR (nfR (He.ga K "RecordFault") i)) := by
  obtain ⟨bs, p0⟩ := i
  replace h : p0 ≤ bs.length := h
  refine xs_seq (xs1_asgT (ev1_tup (ea1_cons ev_int (ea1_cons ev_int ea_nil))) tg2 ?_)
  refine then_nx ?_
  refine xs_while (fun m Δ' => ∃ (f w : Int) (p : Nat) (o : Sl), Δ' = [.dat (bD bs), .dat (.int p), .dat (.int f), .dat (.int w), o] ∧ nf (bs.drop p0) 0 1 p0 = nf (bs.drop p) f w p ∧ p ≤ bs.length ∧ m = bs.length - p) _ ⟨0, 1, p0, _, rfl, rfl, h, rfl⟩ ?_
  rintro m Δ' ⟨f, w, p, o, rfl, hn, hp, rfl⟩
  refine ⟨(· = true), fun _ => False, et1_B ev_bl, fun _ z => z.elim, fun _ => ?_, fun z => nomatch z⟩
  have hlen : ∀ {Δ : En}, Δ[0]? = some (Sl.dat (bD bs)) → Ev K (WE W) (tCB (rLenC K) (tCons (tVar 0) tNil)) Δ (· = .int (bs.length : Nat)) fun _ => False := fun h => ev_is (ev1_cb (ea1_cons (ev_var h) ea_nil) cd_lenT) (by rw [List.length_map])
  refine xs_seq (xs1_if (et1_val (ev1_op (ev_var (d := .int p) rfl) (hlen rfl) od_ge)) (fun hb => ?_) fun hb => xs_next ?_)
  · have hb' : bs.length ≤ p := by have := of_decide_eq_true hb; omega
    refine xs_raise ?_
    show nfR _ _ = _
    unfold nfR
    show (match nf (bs.drop p0) 0 1 p0 with | some p => _ | none => _) = _
    rw [hn, List.drop_of_length_le hb']
    rfl
  · have hb' : p < bs.length := by have := of_decide_eq_false hb; omega
    obtain ⟨x, hx⟩ := get_ex hb'
    rw [drop_at hx] at hn
    refine then_nx ?_
    refine xs_seq (xs1_asg (ev1_op (ev_var (d := bD bs) rfl) (ev_var (d := .int p) rfl) (od_ixT (atI_nat (map_get hx)))) ?_)
    refine then_nx (xs_seq (xs1_aug (x := .int p) rfl ev_int iadA ?_))
    refine then_nx (xs_seq (xs1_aug (x := .int f) rfl (ev1_op (ev1_op (ev_var (d := .int x) rfl) ev_int (od_mod (by decide))) (ev_var (d := .int w) rfl) (od_mul (.inl (small128 x)))) iadA ?_))
    refine then_nx (xs_seq (xs1_aug (x := .int w) rfl ev_int (imu (.inr ⟨by decide, by decide⟩)) ?_))
    refine then_nx ?_
    refine xs1_if (et1_val (ev1_op (ev_var (d := .int x) rfl) ev_int od_lt)) (fun hc => ?_) fun hc => xs_next ?_
    · have hx1 : x < 128 := of_decide_eq_true hc
      have hn2 : nf (bs.drop p0) 0 1 p0 = if x = 0 ∧ 128 < w * 128 then none else some (f + x % 128 * w, p + 1) := by rw [hn, nf, if_pos hx1]
      refine xs_seq (xs1_if (et1_and (et1_val (ev1_op (ev_var (d := .int x) rfl) ev_int od_eqI)) fun _ => et1_val (ev1_op (ev_var (d := .int (w * 128)) rfl) ev_int od_gt)) (fun hb2 => ?_) fun hb2 => xs_next ?_)
      · obtain ⟨b1, b2⟩ := Bool.and_eq_true_iff.mp hb2
        refine xs_raise ?_
        show nfR _ _ = _
        unfold nfR
        show (match nf (bs.drop p0) 0 1 p0 with | some p => _ | none => _) = _
        rw [hn2, if_pos ⟨of_decide_eq_true b1, of_decide_eq_true b2⟩]
      · have hb3 : ¬ (x = 0 ∧ 128 < w * 128) := fun ⟨a, b⟩ => by
          rw [decide_eq_true a, decide_eq_true b] at hb2
          cases hb2
        refine then_nx ?_
        refine xs1_ret (ev1_tup (ea1_cons (ev_var (d := .int (f + x % 128 * w)) rfl) (ea1_cons (ev_var (d := .int (p + 1)) rfl) ea_nil))) ?_
        show nfR _ _ = _
        unfold nfR
        show (match nf (bs.drop p0) 0 1 p0 with | some p => _ | none => _) = _
        rw [hn2, if_neg hb3]
        rfl
    · have hx1 : ¬ x < 128 := of_decide_eq_false hc
      refine ⟨bs.length - (p + 1), by omega, _, _, p + 1, _, rfl, ?_, hb', rfl⟩
      rw [hn, nf, if_neg hx1]
end
end Ts


/-! Frames, records, groups as bytes: plain Lean. -/
namespace K10
open PySem Ts
theorem eqv_ints : ∀ a b : List Int, PyData.eqvAll (D.pys (a.map D.int)) (D.pys (b.map D.int)) = decide (a = b)
  | [], [] => rfl
  | [], _ :: _ => rfl
  | _ :: _, [] => rfl
  | x :: a, y :: b => by
    show ((x == y) && PyData.eqvAll (D.pys (a.map D.int)) (D.pys (b.map D.int))) = _
    rw [eqv_ints a b]
    by_cases h : x = y
    · subst h
      simp
    · have h0 : (x == y) = false := by
        cases hq : x == y with
        | false => rfl
        | true => exact absurd (eq_of_beq hq) h
      rw [h0, decide_eq_false (p := x :: a = y :: b) (fun e => h (by injection e))]
      rfl
theorem od_neBy {K : PySem.W.Frag} {a b : List Int} : OpD K (rNeG K) (bD a) (bD b) (· = .bl (!decide (a = b))) := by
  have h := od_neD (K := K) (bD_ok a) (bD_ok b)
  have e : PyData.eqv (bD a).py (bD b).py = decide (a = b) := eqv_ints a b
  rw [e] at h
  exact h
theorem od_eqBy {K : PySem.W.Frag} {a b : List Int} : OpD K (rEqG K) (bD a) (bD b) (· = .bl (decide (a = b))) := by
  have h := od_eqD (K := K) (bD_ok a) (bD_ok b)
  have e : PyData.eqv (bD a).py (bD b).py = decide (a = b) := eqv_ints a b
  rw [e] at h
  exact h
/-! ### bytes -/
def By (d : List Int) : Prop := ∀ x ∈ d, 0 ≤ x ∧ x < 256
theorem By.app {a b : List Int} (h1 : By a) (h2 : By b) : By (a ++ b) := fun x h => by
  rcases List.mem_append.mp h with z | z
  · exact h1 x z
  · exact h2 x z
theorem by_low : ∀ (m : Nat) (n : Int), By (low m n)
  | 0, _ => fun x h => (nomatch h)
  | m + 1, n => fun x h => by
    rcases List.mem_cons.mp h with e | h
    · rw [e]
      exact ⟨Int.emod_nonneg _ (by decide), Int.emod_lt_of_pos _ (by decide)⟩
    · exact by_low m _ x h
theorem by_fixed (n : Int) (m : Nat) : By (fixedI n m) := fun x h => by_low m n x (List.mem_reverse.mp h)
theorem by_nat : ∀ (k n : Nat), n ≤ k → By (natI n)
  | 0, n, h => fun x hx => by
    have : n = 0 := by omega
    subst this
    rw [natI] at hx
    simp at hx
    omega
  | k + 1, n, h => fun x hx => by
    rw [natI] at hx
    split at hx
    · rename_i hc
      have : x = (n : Int) := by simpa using hx
      omega
    · rename_i hc
      rcases List.mem_cons.mp hx with e | hx
      · have h1 := Int.emod_nonneg (n : Int) (show (128 : Int) ≠ 0 by decide)
        have h2 := Int.emod_lt_of_pos (n : Int) (show (0 : Int) < 128 by decide)
        omega
      · exact by_nat k (n / 128) (by omega) x hx
theorem by_one {x : Int} (h : 0 ≤ x ∧ x < 256) : By [x] := fun y hy => by
  rw [List.mem_singleton.mp hy]; exact h
theorem num_snoc (a : List Int) (x : Int) : numI (a ++ [x]) = numI a * 256 + x := by
  unfold numI
  rw [List.foldl_append]
  rfl
theorem fixed_s (n : Int) (m : Nat) : fixedI n (m + 1) = fixedI (n / 256) m ++ [n % 256] := by
  show (n % 256 :: low m (n / 256)).reverse = _
  rw [List.reverse_cons]
  rfl
theorem num_fixed : ∀ (m : Nat) (n : Int), 0 ≤ n → n < 256 ^ m → numI (fixedI n m) = n
  | 0, n, h0, h => by
    have : n = 0 := by
      have : n < 1 := h
      omega
    subst this
    rfl
  | m + 1, n, h0, h => by
    rw [fixed_s, num_snoc, num_fixed m (n / 256) (by omega) (by
      have h' : n < 256 ^ m * 256 := by rwa [Int.pow_succ] at h
      omega)]
    omega
theorem num_nn : ∀ (k : Nat) (d : List Int), d.length = k → By d → 0 ≤ numI d
  | 0, d, hk, _ => by
    have : d = [] := List.eq_nil_of_length_eq_zero hk
    subst this
    exact Int.le_refl 0
  | k + 1, d, hk, h => by
    have hd : d ≠ [] := fun z => by rw [z] at hk; cases hk
    obtain ⟨a, x, rfl⟩ : ∃ b' x, d = b' ++ [x] := ⟨d.dropLast, d.getLast hd, (List.dropLast_concat_getLast hd).symm⟩
    rw [num_snoc]
    have := num_nn k a (by simpa using hk) fun y hy => h y (List.mem_append_left _ hy)
    have := (h x (by simp)).1
    omega
/-! ### records -/
inductive Rec where
  | image (n : Int) (bs : List Int)
  | fin (n : Int)
def rr : List Int → Option Rec
  | [] => none
  | x :: p => if x = 1 ∨ x = 2 then (match nf p 0 1 1 with
    | none => none
    | some (n, k) => if x = 1 then some (.image n ((x :: p).drop k)) else if k = p.length + 1 then some (.fin n) else none) else none
theorem rr_cons {x : Int} {p : List Int} : rr (x :: p) = if x = 1 ∨ x = 2 then (match nf p 0 1 1 with
    | none => none
    | some (n, k) => if x = 1 then some (.image n ((x :: p).drop k)) else if k = p.length + 1 then some (.fin n) else none) else none := rfl
theorem nf_nat : ∀ (k n : Nat) (rest : List Int) (f w : Int) (j : Nat), n ≤ k → (n ≠ 0 ∨ w = 1) → nf (natI n ++ rest) f w j = some (f + n * w, j + (natI n).length)
  | 0, n, rest, f, w, j, h, hw => by
    have : n = 0 := by omega
    subst this
    have hw' : w = 1 := by omega
    subst hw'
    rw [natI, if_pos (by decide)]
    simp [nf]
  | k + 1, n, rest, f, w, j, h, hw => by
    rw [natI]
    by_cases hc : n < 128
    · rw [if_pos hc]
      show nf ((n : Int) :: rest) f w j = _
      rw [nf, if_pos (by omega), if_neg (by
        rintro ⟨a, b⟩
        have : n = 0 := by omega
        have : w = 1 := by omega
        omega)]
      have e : (n : Int) % 128 = n := Int.emod_eq_of_lt (by omega) (by omega)
      rw [e]
      rfl
    · rw [if_neg hc]
      show nf ((128 + (n : Int) % 128) :: (natI (n / 128) ++ rest)) f w j = _
      have h1 := Int.emod_nonneg (n : Int) (show (128 : Int) ≠ 0 by decide)
      rw [nf, if_neg (by omega), nf_nat k (n / 128) rest _ _ _ (by omega) (.inl (by omega))]
      have e : (128 + (n : Int) % 128) % 128 = (n : Int) % 128 := by omega
      rw [e]
      congr 2
      · have e2 : ((n / 128 : Nat) : Int) = (n : Int) / 128 := Int.natCast_ediv n 128
        have e3 : (n : Int) = 128 * ((n : Int) / 128) + (n : Int) % 128 := (Int.mul_ediv_add_emod _ _).symm
        rw [e2]
        generalize (n : Int) / 128 = u at *
        generalize (n : Int) % 128 = v at *
        rw [e3, Int.add_mul, Int.add_assoc]
        congr 1
        rw [Int.add_comm]
        congr 1
        rw [Int.mul_comm w 128, ← Int.mul_assoc, Int.mul_comm u 128]
      · simp only [List.length_cons]; omega
/-! ### frames -/
def frameI (p : List Int) : List Int := fixedI p.length 4 ++ p ++ csumI p
theorem csum_len (p : List Int) : (csumI p).length = 4 := fixedI_len _ _
theorem frame_len (p : List Int) : (frameI p).length = p.length + 8 := by
  simp only [frameI, List.length_append, fixedI_len, csum_len]; omega
def framesI (d : List Int) : List (List Int) :=
  if h : d.length < 8 then [] else
    if (numI (d.take 4)).toNat + 8 ≤ d.length ∧ csumI ((d.drop 4).take (numI (d.take 4)).toNat) = (d.drop (4 + (numI (d.take 4)).toNat)).take 4 then
      (d.drop 4).take (numI (d.take 4)).toNat :: framesI (d.drop ((numI (d.take 4)).toNat + 8)) else []
  termination_by d.length
  decreasing_by simp only [List.length_drop]; omega
theorem frames_cons {p rest : List Int} (hp : p.length < 2 ^ 32) : framesI (frameI p ++ rest) = p :: framesI rest := by
  have hl : (frameI p ++ rest).length = p.length + 8 + rest.length := by rw [List.length_append, frame_len]
  have e4 : (frameI p ++ rest).take 4 = fixedI p.length 4 := by
    unfold frameI
    rw [List.append_assoc, List.append_assoc, List.take_append_of_le_length (by rw [fixedI_len]; exact Nat.le_refl _), List.take_of_length_le (by rw [fixedI_len]; exact Nat.le_refl _)]
  have en : (numI ((frameI p ++ rest).take 4)).toNat = p.length := by
    rw [e4, num_fixed 4 _ (by omega) (by
      have : ((256 : Int) ^ 4) = 4294967296 := by decide
      rw [this]; omega)]
    exact Int.toNat_natCast _
  have d4 : (frameI p ++ rest).drop 4 = p ++ (csumI p ++ rest) := by
    unfold frameI
    rw [List.append_assoc, List.append_assoc, List.drop_append_of_le_length (by rw [fixedI_len]; exact Nat.le_refl _), List.drop_of_length_le (by rw [fixedI_len]; exact Nat.le_refl _)]
    rfl
  have dm : (frameI p ++ rest).drop (4 + p.length) = csumI p ++ rest := by
    rw [← List.drop_drop, d4, List.drop_left' rfl]
  have d8 : (frameI p ++ rest).drop (p.length + 8) = rest := List.drop_left' (frame_len p)
  rw [framesI, dif_neg (by omega), en, d4, dm, d8, List.take_left' rfl, List.take_left' (csum_len p), if_pos ⟨by omega, rfl⟩]
theorem frames_cut {p rest : List Int} (hp : p.length < 2 ^ 32) {c : Nat} (hc : c < (frameI p).length) : framesI ((frameI p ++ rest).take c) = [] := by
  have hl : ((frameI p ++ rest).take c).length = c := by
    rw [List.length_take, List.length_append]; omega
  rw [framesI]
  by_cases h8 : c < 8
  · rw [dif_pos (by omega)]
  · rw [dif_neg (by omega)]
    have e4 : ((frameI p ++ rest).take c).take 4 = fixedI p.length 4 := by
      rw [List.take_take, Nat.min_eq_left (by omega)]
      unfold frameI
      rw [List.append_assoc, List.append_assoc, List.take_append_of_le_length (by rw [fixedI_len]; exact Nat.le_refl _), List.take_of_length_le (by rw [fixedI_len]; exact Nat.le_refl _)]
    have en : (numI (((frameI p ++ rest).take c).take 4)).toNat = p.length := by
      rw [e4, num_fixed 4 _ (by omega) (by
        have : ((256 : Int) ^ 4) = 4294967296 := by decide
        rw [this]; omega)]
      exact Int.toNat_natCast _
    rw [en, if_neg (by
      rintro ⟨a, _⟩
      rw [hl] at a
      rw [frame_len] at hc
      omega)]
/-! ### groups -/
abbrev Im : Type := Int × List Int
abbrev Grp : Type := Int × List Im
def ipay (x : Im) : List Int := 1 :: (natI x.1.toNat ++ x.2)
def epay (s : Int) : List Int := 2 :: natI s.toNat
def imsI (ims : List Im) : List Int := (ims.map fun x => frameI (ipay x)).flatten
def groupI (g : Grp) : List Int := imsI g.2 ++ frameI (epay g.1)
def goG : List (List Int) → List Im → List Grp
  | [], _ => []
  | p :: ps, im => match rr p with
    | none => []
    | some (.image n bs) => goG ps (im ++ [(n, bs)])
    | some (.fin n) => (n, im) :: goG ps []
def readI (d : List Int) : List Grp := goG (framesI d) []
def NumOk (n : Int) : Prop := 0 ≤ n ∧ n < 2 ^ 63
def ImOk (x : Im) : Prop := NumOk x.1 ∧ x.2.length ≤ 100 ∧ By x.2
def GrpOk (g : Grp) : Prop := NumOk g.1 ∧ g.2.length ≤ 3 ∧ ∀ x ∈ g.2, ImOk x
theorem nat_len {n : Int} (h : NumOk n) : (natI n.toNat).length ≤ 10 := natI_le (by have := h.1; have := h.2; omega)
theorem ipay_len {x : Im} (h : ImOk x) : (ipay x).length ≤ 111 := by
  have := nat_len h.1
  have := h.2.1
  simp only [ipay, List.length_cons, List.length_append]
  omega
theorem epay_len {s : Int} (h : NumOk s) : (epay s).length ≤ 11 := by
  have := nat_len h
  simp only [epay, List.length_cons]
  omega
theorem rr_ipay {x : Im} (h : NumOk x.1) : rr (ipay x) = some (.image x.1 x.2) := by
  unfold ipay
  rw [rr_cons, if_pos (.inl rfl), nf_nat x.1.toNat x.1.toNat x.2 0 1 1 (Nat.le_refl _) (.inr rfl)]
  show (if (1 : Int) = 1 then some (Rec.image _ _) else _) = _
  rw [if_pos rfl]
  have e1 : (0 : Int) + ((x.1.toNat : Nat) : Int) * 1 = x.1 := by
    have := Int.toNat_of_nonneg h.1
    omega
  have e2 : (1 :: (natI x.1.toNat ++ x.2)).drop (1 + (natI x.1.toNat).length) = x.2 := by
    rw [Nat.add_comm 1, List.drop_succ_cons, List.drop_left' rfl]
  rw [e1, e2]
theorem rr_epay {s : Int} (h : NumOk s) : rr (epay s) = some (.fin s) := by
  unfold epay
  rw [rr_cons, if_pos (.inr rfl)]
  have e := nf_nat s.toNat s.toNat [] 0 1 1 (Nat.le_refl _) (.inr rfl)
  rw [List.append_nil] at e
  rw [e]
  show (if (2 : Int) = 1 then _ else if 1 + (natI s.toNat).length = (natI s.toNat).length + 1 then some (Rec.fin _) else none) = _
  rw [if_neg (by decide), if_pos (by omega)]
  have e1 : (0 : Int) + ((s.toNat : Nat) : Int) * 1 = s := by
    have := Int.toNat_of_nonneg h.1
    omega
  rw [e1]
theorem go_cut {s : Int} (hs : NumOk s) {R : List Int} : ∀ (ims acc : List Im) (c : Nat), (∀ x ∈ ims, ImOk x) →
    goG (framesI ((imsI ims ++ frameI (epay s) ++ R).take c)) acc = if (imsI ims ++ frameI (epay s)).length ≤ c then (s, acc ++ ims) :: goG (framesI (R.take (c - (imsI ims ++ frameI (epay s)).length))) [] else []
  | [], acc, c, _ => by
    have hp : (epay s).length < 2 ^ 32 := by have := epay_len hs; omega
    show goG (framesI ((frameI (epay s) ++ R).take c)) acc = if (frameI (epay s)).length ≤ c then (s, acc ++ []) :: goG (framesI (R.take (c - (frameI (epay s)).length))) [] else []
    by_cases hc : (frameI (epay s)).length ≤ c
    · rw [if_pos hc, List.take_append, List.take_of_length_le hc, frames_cons hp, goG, rr_epay hs, List.append_nil]
    · rw [if_neg hc, frames_cut hp (by omega)]
      rfl
  | x :: ims, acc, c, h => by
    have hx := h x (by simp)
    have hp : (ipay x).length < 2 ^ 32 := by have := ipay_len hx; omega
    have e : imsI (x :: ims) ++ frameI (epay s) = frameI (ipay x) ++ (imsI ims ++ frameI (epay s)) := by
      simp [imsI]
    rw [e, List.append_assoc]
    have ih := go_cut hs (R := R) ims (acc ++ [(x.1, x.2)]) (c - (frameI (ipay x)).length) fun y hy => h y (by simp [hy])
    by_cases hc : (frameI (ipay x)).length ≤ c
    · rw [List.take_append, List.take_of_length_le hc, frames_cons hp, goG, rr_ipay hx.1]
      show goG _ (acc ++ [(x.1, x.2)]) = _
      rw [ih]
      have el : (frameI (ipay x) ++ (imsI ims ++ frameI (epay s))).length = (frameI (ipay x)).length + (imsI ims ++ frameI (epay s)).length := List.length_append
      by_cases hc2 : (imsI ims ++ frameI (epay s)).length ≤ c - (frameI (ipay x)).length
      · rw [if_pos hc2, if_pos (by omega), el, List.append_assoc]
        have : c - (frameI (ipay x)).length - (imsI ims ++ frameI (epay s)).length = c - ((frameI (ipay x)).length + (imsI ims ++ frameI (epay s)).length) := by omega
        rw [this]
        rfl
      · rw [if_neg hc2, if_neg (by omega)]
    · rw [frames_cut hp (by omega), if_neg (by rw [List.length_append]; omega)]
      rfl
def logI (gs : List Grp) : List Int := (gs.map groupI).flatten
def fit : List Grp → Nat → List Grp
  | [], _ => []
  | g :: gs, c => if (groupI g).length ≤ c then g :: fit gs (c - (groupI g).length) else []
theorem frames_nil : framesI [] = [] := by rw [framesI]; rfl
theorem read_cut : ∀ (gs : List Grp) (c : Nat), (∀ g ∈ gs, GrpOk g) → readI ((logI gs).take c) = fit gs c
  | [], c, _ => by
    show goG (framesI (([] : List Int).take c)) [] = []
    rw [List.take_nil, frames_nil]
    rfl
  | g :: gs, c, h => by
    have hg := h g (by simp)
    have e : logI (g :: gs) = imsI g.2 ++ frameI (epay g.1) ++ logI gs := by simp [logI, groupI]
    unfold readI
    rw [e, go_cut hg.1 g.2 [] c hg.2.2]
    show _ = if (imsI g.2 ++ frameI (epay g.1)).length ≤ c then g :: fit gs (c - (imsI g.2 ++ frameI (epay g.1)).length) else []
    split
    · rw [← read_cut gs _ fun y hy => h y (by simp [hy])]
      rfl
    · rfl
def lenG (gs : List Grp) : Nat := (logI gs).length
theorem lenG_cons (g : Grp) (gs : List Grp) : lenG (g :: gs) = (groupI g).length + lenG gs := by simp [lenG, logI]
theorem lenG_snoc (g : Grp) : ∀ gs : List Grp, lenG (gs ++ [g]) = lenG gs + (groupI g).length
  | gs => by simp [lenG, logI]
theorem fit_snoc (g : Grp) : ∀ (gs : List Grp) (c : Nat), fit (gs ++ [g]) c = fit gs c ++ if lenG (gs ++ [g]) ≤ c then [g] else []
  | [], c => by
    have : lenG ([] ++ [g]) = (groupI g).length := by simp [lenG, logI]
    rw [this]
    rfl
  | x :: gs, c => by
    have e : lenG (x :: gs ++ [g]) = (groupI x).length + lenG (gs ++ [g]) := lenG_cons x (gs ++ [g])
    show (if (groupI x).length ≤ c then x :: fit (gs ++ [g]) (c - (groupI x).length) else []) = (if (groupI x).length ≤ c then x :: fit gs (c - (groupI x).length) else []) ++ _
    rw [e]
    by_cases hc : (groupI x).length ≤ c
    · rw [if_pos hc, if_pos hc, fit_snoc g gs]
      by_cases hc2 : lenG (gs ++ [g]) ≤ c - (groupI x).length
      · rw [if_pos hc2, if_pos (by omega)]; rfl
      · rw [if_neg hc2, if_neg (by omega)]; rfl
    · rw [if_neg hc, if_neg hc, if_neg (by omega)]
      rfl
theorem fit_all : ∀ (gs : List Grp) (c : Nat), lenG gs ≤ c → fit gs c = gs
  | [], _, _ => rfl
  | g :: gs, c, h => by
    rw [lenG_cons] at h
    rw [fit, if_pos (by omega), fit_all gs _ (by omega)]
theorem read_log (gs : List Grp) (h : ∀ g ∈ gs, GrpOk g) : readI (logI gs) = gs := by
  have := read_cut gs (logI gs).length h
  rw [List.take_length] at this
  exact this.trans (fit_all gs _ (Nat.le_refl _))
theorem go_len {s : Int} (hs : NumOk s) {R : List Int} : ∀ (ims : List Im), (∀ x ∈ ims, ImOk x) → (framesI (imsI ims ++ frameI (epay s) ++ R)).length = ims.length + 1 + (framesI R).length
  | [], _ => by
    have hp : (epay s).length < 2 ^ 32 := by have := epay_len hs; omega
    show (framesI (frameI (epay s) ++ R)).length = _
    rw [frames_cons hp]
    simp
    omega
  | x :: ims, h => by
    have hx := h x (by simp)
    have hp : (ipay x).length < 2 ^ 32 := by have := ipay_len hx; omega
    have e : imsI (x :: ims) ++ frameI (epay s) ++ R = frameI (ipay x) ++ (imsI ims ++ frameI (epay s) ++ R) := by
      simp [imsI]
    rw [e, frames_cons hp, List.length_cons, go_len hs ims fun y hy => h y (by simp [hy])]
    simp
    omega
theorem frames_count : ∀ gs : List Grp, (∀ g ∈ gs, GrpOk g) → ((framesI (logI gs)).length : Int) = (gs.map fun g => (1 + (g.2.length : Nat) : Int)).sum
  | [], _ => by
    show ((framesI []).length : Int) = 0
    rw [frames_nil]; rfl
  | g :: gs, h => by
    have hg := h g (by simp)
    have e : logI (g :: gs) = imsI g.2 ++ frameI (epay g.1) ++ logI gs := by simp [logI, groupI]
    have ih := frames_count gs fun y hy => h y (by simp [hy])
    rw [e, go_len hg.1 g.2 hg.2.2, List.map_cons, List.sum_cons, ← ih]
    omega
theorem by_frame {p : List Int} (h : By p) : By (frameI p) := ((by_fixed _ _).app h).app (by_fixed _ _)
theorem by_ipay {x : Im} (h : ImOk x) : By (ipay x) := (by_one (x := 1) (by decide)).app ((by_nat _ _ (Nat.le_refl _)).app h.2.2)
theorem by_epay {s : Int} : By (epay s) := (by_one (x := 2) (by decide)).app (by_nat _ _ (Nat.le_refl _))
theorem by_ims : ∀ ims : List Im, (∀ x ∈ ims, ImOk x) → By (imsI ims)
  | [], _ => fun x h => (nomatch h)
  | x :: ims, h => by
    have e : imsI (x :: ims) = frameI (ipay x) ++ imsI ims := by simp [imsI]
    rw [e]
    exact (by_frame (by_ipay (h x (by simp)))).app (by_ims ims fun y hy => h y (by simp [hy]))
theorem by_log : ∀ gs : List Grp, (∀ g ∈ gs, GrpOk g) → By (logI gs)
  | [], _ => fun x h => (nomatch h)
  | g :: gs, h => by
    have hg := h g (by simp)
    have e : logI (g :: gs) = imsI g.2 ++ frameI (epay g.1) ++ logI gs := by simp [logI, groupI]
    rw [e]
    exact ((by_ims _ hg.2.2).app (by_frame by_epay)).app (by_log gs fun y hy => h y (by simp [hy]))
theorem ims_len : ∀ ims : List Im, (∀ x ∈ ims, ImOk x) → (imsI ims).length ≤ 119 * ims.length
  | [], _ => by simp [imsI]
  | x :: ims, h => by
    have e : imsI (x :: ims) = frameI (ipay x) ++ imsI ims := by simp [imsI]
    have := ims_len ims fun y hy => h y (by simp [hy])
    have := ipay_len (h x (by simp))
    rw [e, List.length_append, frame_len, List.length_cons]
    omega
theorem group_len {g : Grp} (h : GrpOk g) : (groupI g).length ≤ 400 := by
  have := ims_len g.2 h.2.2
  have := epay_len h.1
  have := h.2.1
  unfold groupI
  rw [List.length_append, frame_len]
  omega
theorem log_len : ∀ gs : List Grp, (∀ g ∈ gs, GrpOk g) → (logI gs).length ≤ 400 * gs.length
  | [], _ => by simp [logI]
  | g :: gs, h => by
    have := group_len (h g (by simp))
    have := log_len gs fun y hy => h y (by simp [hy])
    have e : logI (g :: gs) = groupI g ++ logI gs := by simp [logI]
    rw [e, List.length_append, List.length_cons]
    omega
end K10


/-! k10_groups_in_the_log: the readings of the defs and their derivations. Printed by gen.py. -/
namespace K10
open PySem PySem.Spec PyProof.Rows L2 Ts

def top (i : Nat) : Stmt := PySem.Challenge.pw_tablestack_k10_groups_in_the_log.main.body.getD i (.Pass ⟨0, 0, 0, 0⟩)

def inClass (s : Stmt) (i : Nat) : Stmt := match s with
  | .ClassDef _ _ _ body _ _ _ _ _ _ _ => body.getD i (.Pass ⟨0, 0, 0, 0⟩)
  | _ => .Pass ⟨0, 0, 0, 0⟩

/-- what the module says -/
structure Txt (K : PySem.W.Frag) (mg : Str → Option Value) : Prop where
  x_LogFault : PySem.W.excIn K (He.ga K "LogFault") He.veBase "ValueError.__new__" = true
  g_LogFault : mg "LogFault" = some (.ref (He.ga K "LogFault"))
  k_LogFault : PySem.W.keepIn K (.ref (He.ga K "LogFault")) = true
  b_LogFault : PySem.W.subIn K (.ref (He.ga K "LogFault")) (.type "BaseException") = some true
  t_LogFault : PySem.W.typeIn K (.ref (He.ga K "LogFault")) = some (.type "type")
  x_RecordFault : PySem.W.excIn K (He.ga K "RecordFault") He.veBase "ValueError.__new__" = true
  g_RecordFault : mg "RecordFault" = some (.ref (He.ga K "RecordFault"))
  k_RecordFault : PySem.W.keepIn K (.ref (He.ga K "RecordFault")) = true
  b_RecordFault : PySem.W.subIn K (.ref (He.ga K "RecordFault")) (.type "BaseException") = some true
  t_RecordFault : PySem.W.typeIn K (.ref (He.ga K "RecordFault")) = some (.type "type")
  n_abs : mg "abs" = none
  n_enumerate : mg "enumerate" = none
  n_int : mg "int" = none
  n_len : mg "len" = none
  n_list : mg "list" = none
  n_range : mg "range" = none
  n_sum : mg "sum" = none
  n_tuple : mg "tuple" = none
  c_END : ∃ t, mg "END" = some (.int 2 t)
  c_FRAME_HEAD : ∃ t, mg "FRAME_HEAD" = some (.int 4 t)
  c_FRAME_TAIL : ∃ t, mg "FRAME_TAIL" = some (.int 4 t)
  c_IMAGE : ∃ t, mg "IMAGE" = some (.int 1 t)
  c_WORD : ∃ t, mg "WORD" = some (.int 256 t)

section
variable {P : Program} {w : World} {K : PySem.W.Frag} {mg : Str → Option Value} {base : Heap}

abbrev N__law_told : List Str := ["what"]
abbrev s__law_told : Stmt := (top 27)
theorem sc__law_told : FnScope N__law_told ["what"] (defScope s__law_told) := ⟨rfl, rfl, rfl, by decide +kernel, rfl, by decide +kernel, by decide +kernel⟩

/-! fixed: level 1 -/
abbrev N_fixed : List Str := ["number", "many", "found", "step"]
def t_fixed (K : PySem.W.Frag) (W : WX) : TS :=
  (tSeq (tAsg (tLst tNil) (gName 2))
  (tSeq (tFor (iRng1 (tCons (tVar 1) tNil)) (gName 3) (tSeq (tDrop (tBM K "list" rAppend (tVar 2) (tCons (tOp rModG (tVar 0) (tC (.int 256))) tNil)))
  (tAug 0 (tC (.int 256)) rIDivG)))
  (tRet (tCB (rTupO K) (tCons (tRevL K (tVar 2)) tNil)))))
abbrev s_fixed : Stmt := (top 6)
theorem sc_fixed : FnScope N_fixed ["number", "many"] (defScope s_fixed) := ⟨rfl, rfl, rfl, by decide +kernel, rfl, by decide +kernel, by decide +kernel⟩
theorem der_fixed (T : Txt K mg) {f : Addr} {cdv : Value} {A : Around} {outer : List Env} {s : Shared} {H : Hp} {E : XK} (hr : Room 0 (A.deeper (envOfC "fixed" (defScope s_fixed) s.heap.objs.size f cdv))) :
    PSs (cxOf (L2.CX P w) P w K mg base N_fixed "fixed" (defScope s_fixed) f cdv A outer s H E) (defBody s_fixed) (t_fixed K (wDef E)) :=
  (pss_cons (ps_set (i := 2) sc_fixed.nd rfl (by first | exact Or.inl rfl | exact Or.inr rfl) (pe_lst pa_nil))
  (pss_cons (ps_for (passes_of rfl) rfl (pi_range1 rfl T.n_range (pa_cons (pv 1) pa_nil)) (pg_name (i := 3) sc_fixed.nd rfl (by first | exact Or.inl rfl | exact Or.inr rfl)) (pss_cons (ps_expr (pe_bm PySem.F.plainAttrs_list PySem.F.slot_list_append PySem.F.type_list_append mt_append (pv 2) (pa_cons (pe_op op_modG (pv 0) (pe_globI T.c_WORD)) pa_nil)))
  (pss_one (ps_aug (i := 0) sc_fixed.nd rfl (by first | exact Or.inl rfl | exact Or.inr rfl) (pe_globI T.c_WORD) ip_divG))))
  (pss_one (ps_ret (pe_callTy call_tupG rfl T.n_tuple PyProof.Rows.boot_tuple (pa_cons (pe_revL (pv 2)) pa_nil))))))

/-! number_from: level 1 -/
abbrev N_number_from : List Str := ["data", "found", "one"]
def t_number_from (K : PySem.W.Frag) (W : WX) : TS :=
  (tSeq (tAsg (tC (.int 0)) (gName 1))
  (tSeq (tFor (iSeq K (tVar 0)) (gName 2) (tAsg (tOp (rAddG K) (tOp rMulG (tVar 1) (tC (.int 256))) (tVar 2)) (gName 1)))
  (tRet (tVar 1))))
abbrev s_number_from : Stmt := (top 7)
theorem sc_number_from : FnScope N_number_from ["data"] (defScope s_number_from) := ⟨rfl, rfl, rfl, by decide +kernel, rfl, by decide +kernel, by decide +kernel⟩
theorem der_number_from (T : Txt K mg) {f : Addr} {cdv : Value} {A : Around} {outer : List Env} {s : Shared} {H : Hp} {E : XK} (hr : Room 0 (A.deeper (envOfC "number_from" (defScope s_number_from) s.heap.objs.size f cdv))) :
    PSs (cxOf (L2.CX P w) P w K mg base N_number_from "number_from" (defScope s_number_from) f cdv A outer s H E) (defBody s_number_from) (t_number_from K (wDef E)) :=
  (pss_cons (ps_set (i := 1) sc_number_from.nd rfl (by first | exact Or.inl rfl | exact Or.inr rfl) pe_int)
  (pss_cons (ps_for (passes_of rfl) rfl (pi_seq (pv 0)) (pg_name (i := 2) sc_number_from.nd rfl (by first | exact Or.inl rfl | exact Or.inr rfl)) (pss_one (ps_set (i := 1) sc_number_from.nd rfl (by first | exact Or.inl rfl | exact Or.inr rfl) (pe_op op_addG (pe_op op_mulG (pv 1) (pe_globI T.c_WORD)) (pv 2)))))
  (pss_one (ps_ret (pv 1)))))

/-! natural: level 1 -/
abbrev N_natural : List Str := ["number", "found"]
def t_natural (K : PySem.W.Frag) (W : WX) : TS :=
  (tSeq (tAsg (tLst tNil) (gName 1))
  (tSeq (tWhile (tTest (tOp rGeG (tVar 0) (tC (.int 128)))) (tSeq (tDrop (tBM K "list" rAppend (tVar 1) (tCons (tOp (rAddG K) (tC (.int 128)) (tOp rModG (tVar 0) (tC (.int 128)))) tNil)))
  (tAug 0 (tC (.int 128)) rIDivG)))
  (tRet (tOp (rAddG K) (tCB (rTupO K) (tCons (tVar 1) tNil)) (tTup (tCons (tVar 0) tNil))))))
abbrev s_natural : Stmt := (top 8)
theorem sc_natural : FnScope N_natural ["number"] (defScope s_natural) := ⟨rfl, rfl, rfl, by decide +kernel, rfl, by decide +kernel, by decide +kernel⟩
theorem der_natural (T : Txt K mg) {f : Addr} {cdv : Value} {A : Around} {outer : List Env} {s : Shared} {H : Hp} {E : XK} (hr : Room 0 (A.deeper (envOfC "natural" (defScope s_natural) s.heap.objs.size f cdv))) :
    PSs (cxOf (L2.CX P w) P w K mg base N_natural "natural" (defScope s_natural) f cdv A outer s H E) (defBody s_natural) (t_natural K (wDef E)) :=
  (pss_cons (ps_set (i := 1) sc_natural.nd rfl (by first | exact Or.inl rfl | exact Or.inr rfl) (pe_lst pa_nil))
  (pss_cons (ps_while (passes_of rfl) (pt_cmpR op_geG (pv 0) pe_int (nomark _)) (pss_cons (ps_expr (pe_bm PySem.F.plainAttrs_list PySem.F.slot_list_append PySem.F.type_list_append mt_append (pv 1) (pa_cons (pe_op op_addG pe_int (pe_op op_modG (pv 0) pe_int)) pa_nil)))
  (pss_one (ps_aug (i := 0) sc_natural.nd rfl (by first | exact Or.inl rfl | exact Or.inr rfl) pe_int ip_divG))))
  (pss_one (ps_ret (pe_op op_addG (pe_callTy call_tupG rfl T.n_tuple PyProof.Rows.boot_tuple (pa_cons (pv 1) pa_nil)) (pe_tup (pa_cons (pv 0) pa_nil)))))))

/-! natural_from: level 1 -/
abbrev N_natural_from : List Str := ["data", "place", "found", "weight", "one"]
def t_natural_from (K : PySem.W.Frag) (W : WX) : TS :=
  (tSeq (tAsg (tTup (tCons (tC (.int 0)) (tCons (tC (.int 1)) tNil))) (gTup K 2 (gCons (gName 2) (gCons (gName 3) gNil))))
  (tWhile (tB (tC (.bl true))) (tSeq (tIfS (tTest (tOp rGeG (tVar 1) (tCB (rLenC K) (tCons (tVar 0) tNil)))) (fun _ σ H => W (.ref (He.ga K "RecordFault")) none σ H) tNext)
  (tSeq (tAsg (tOp (rIx K) (tVar 0) (tVar 1)) (gName 4))
  (tSeq (tAug 1 (tC (.int 1)) (rIAddA K))
  (tSeq (tAug 2 (tOp rMulG (tOp rModG (tVar 4) (tC (.int 128))) (tVar 3)) (rIAddA K))
  (tSeq (tAug 3 (tC (.int 128)) rIMulG)
  (tIfS (tTest (tOp (rLtG K) (tVar 4) (tC (.int 128)))) (tSeq (tIfS (tAnd (tTest (tOp (rEqG K) (tVar 4) (tC (.int 0)))) (tTest (tOp rGtG (tVar 3) (tC (.int 128))))) (fun _ σ H => W (.ref (He.ga K "RecordFault")) none σ H) tNext)
  (tRet (tTup (tCons (tVar 2) (tCons (tVar 1) tNil))))) tNext))))))))
abbrev s_natural_from : Stmt := (top 9)
theorem sc_natural_from : FnScope N_natural_from ["data", "place"] (defScope s_natural_from) := ⟨rfl, rfl, rfl, by decide +kernel, rfl, by decide +kernel, by decide +kernel⟩
theorem der_natural_from (T : Txt K mg) {f : Addr} {cdv : Value} {A : Around} {outer : List Env} {s : Shared} {H : Hp} {E : XK} (hr : Room 0 (A.deeper (envOfC "natural_from" (defScope s_natural_from) s.heap.objs.size f cdv))) :
    PSs (cxOf (L2N.CX P w) P w K mg base N_natural_from "natural_from" (defScope s_natural_from) f cdv A outer s H E) (defBody s_natural_from) (t_natural_from K (wDef E)) :=
  (pss_cons (ps_asg (pe_tup (pa_cons pe_int (pa_cons pe_int pa_nil))) (pg_tup rfl (pgs_cons (pg_name (i := 2) sc_natural_from.nd rfl (by first | exact Or.inl rfl | exact Or.inr rfl)) (pgs_cons (pg_name (i := 3) sc_natural_from.nd rfl (by first | exact Or.inl rfl | exact Or.inr rfl)) pgs_nil))))
  (pss_one (ps_while (passes_of rfl) (pt_val pe_bl) (pss_cons (ps_if (pt_cmpR op_geG (pv 1) (pe_callB call_lenG rfl T.n_len boot_len (pa_cons (pv 0) pa_nil)) (nomark _)) (pss_one (L2N.ps_raise rfl (L2N.takes_of rfl rfl rfl rfl) (L2N.pmk_own PySem.F.excBase_ValueError T.x_RecordFault T.g_RecordFault T.k_RecordFault (raises_own T.b_RecordFault T.t_RecordFault) (by rfl)))) pss_nil)
  (pss_cons (ps_set (i := 4) sc_natural_from.nd rfl (by first | exact Or.inl rfl | exact Or.inr rfl) (pe_ix ix_seq (pv 0) (pv 1) (fun _ _ => rfl)))
  (pss_cons (ps_aug (i := 1) sc_natural_from.nd rfl (by first | exact Or.inl rfl | exact Or.inr rfl) pe_int ip_addA)
  (pss_cons (ps_aug (i := 2) sc_natural_from.nd rfl (by first | exact Or.inl rfl | exact Or.inr rfl) (pe_op op_mulG (pe_op op_modG (pv 4) pe_int) (pv 3)) ip_addA)
  (pss_cons (ps_aug (i := 3) sc_natural_from.nd rfl (by first | exact Or.inl rfl | exact Or.inr rfl) pe_int ip_mulG)
  (pss_one (ps_if (pt_cmpR (op_ltG hr.units0) (pv 4) pe_int (nomark _)) (pss_cons (ps_if (PW.pt (pw_and (pt_cmpR (op_eqG hr.units) (pv 4) pe_int (nomark _)) (pw_and1 (pt_cmpR op_gtG (pv 3) pe_int (nomark _))))) (pss_one (L2N.ps_raise rfl (L2N.takes_of rfl rfl rfl rfl) (L2N.pmk_own PySem.F.excBase_ValueError T.x_RecordFault T.g_RecordFault T.k_RecordFault (raises_own T.b_RecordFault T.t_RecordFault) (by rfl)))) pss_nil)
  (pss_one (ps_ret (pe_tup (pa_cons (pv 2) (pa_cons (pv 1) pa_nil)))))) pss_nil))))))))))

/-! _law_dice: level 1 -/
abbrev N__law_dice : List Str := ["cell"]
def t__law_dice (K : PySem.W.Frag) (W : WX) : TS :=
  (tSeq (tIfS (tTest (tChain (rLtG K) (rLtG K) (tOp rSubG (tC (.int 0)) (tC (.int 10))) (tVar 0) (tC (.int 10)))) (tRet (tLst (tCons (tCB rAbs (tCons (tVar 0) tNil)) (tCons (tC (.int 0)) (tCons (tC (.int 2)) tNil))))) tNext)
  (tRet (tLst (tCons (tVar 0) (tCons (tOp (rAddG K) (tC (.int 1)) (tOp rModG (tCB rInt1 (tCons (tVar 0) tNil)) (tC (.int 1009)))) (tCons (tCB rInt1 (tCons (tOp rGeG (tVar 0) (tOp rPowG (tC (.int 10)) (tC (.int 18)))) tNil)) tNil))))))
abbrev s__law_dice : Stmt := (top 24)
theorem sc__law_dice : FnScope N__law_dice ["cell"] (defScope s__law_dice) := ⟨rfl, rfl, rfl, by decide +kernel, rfl, by decide +kernel, by decide +kernel⟩
theorem der__law_dice (T : Txt K mg) {f : Addr} {cdv : Value} {A : Around} {outer : List Env} {s : Shared} {H : Hp} {E : XK} (hr : Room 0 (A.deeper (envOfC "_law_dice" (defScope s__law_dice) s.heap.objs.size f cdv))) :
    PSs (cxOf (L2.CX P w) P w K mg base N__law_dice "_law_dice" (defScope s__law_dice) f cdv A outer s H E) (defBody s__law_dice) (t__law_dice K (wDef E)) :=
  (pss_cons (ps_if (pt_chain (op_ltG hr.units0) (op_ltG hr.units0) (pe_op op_subG pe_int pe_int) (pv 0) pe_int) (pss_one (ps_ret (pe_lst (pa_cons (pe_callB call_absG rfl T.n_abs PyProof.Rows.boot_abs (pa_cons (pv 0) pa_nil)) (pa_cons pe_int (pa_cons pe_int pa_nil)))))) pss_nil)
  (pss_one (ps_ret (pe_lst (pa_cons (pv 0) (pa_cons (pe_op op_addG pe_int (pe_op op_modG (pe_callTy call_intG rfl T.n_int PyProof.Rows.boot_int (pa_cons (pv 0) pa_nil)) pe_int)) (pa_cons (pe_callTy call_intG rfl T.n_int PyProof.Rows.boot_int (pa_cons (pe_cmpR op_geG (pv 0) (pe_op op_powG pe_int pe_int) (nomark _)) pa_nil)) pa_nil)))))))

/-! _law_roll: level 1 -/
abbrev N__law_roll : List Str := ["dice", "many", "found"]
def t__law_roll (K : PySem.W.Frag) (W : WX) : TS :=
  (tSeq (tIfS (tOr (tTest (tOp (rEqG K) (tOp (rIx K) (tVar 0) (tC (.int 2))) (tC (.int 2)))) (tAnd (tTest (tOp (rEqG K) (tOp (rIx K) (tVar 0) (tC (.int 2))) (tC (.int 1)))) (tTest (tOp rGtG (tOp (rIx K) (tVar 0) (tC (.int 0))) (tC (.int 0)))))) (tSeq (tAsg (tOp rModG (tCB rInt1 (tCons (tOp (rIx K) (tVar 0) (tC (.int 0))) tNil)) (tVar 1)) (gName 2))
  (tSeq (tAsg (tOp rDivG (tOp (rIx K) (tVar 0) (tC (.int 0))) (tVar 1)) (gSub (tVar 0) (tC (.int 0)) rSetL))
  (tRet (tVar 2)))) tNext)
  (tSeq (tAsg (tC (.int 0)) (gSub (tVar 0) (tC (.int 2)) rSetL))
  (tSeq (tAsg (tOp rModG (tCB rInt1 (tCons (tOp (rAddG K) (tOp (rAddG K) (tOp rMulG (tOp (rIx K) (tVar 0) (tC (.int 0))) (tC (.int 48271))) (tOp rMulG (tOp (rIx K) (tVar 0) (tC (.int 1))) (tC (.int 69621)))) (tC (.int 11))) tNil)) (tC (.int 2147483647))) (gSub (tVar 0) (tC (.int 0)) rSetL))
  (tSeq (tAsg (tOp (rAddG K) (tOp (rIx K) (tVar 0) (tC (.int 1))) (tC (.int 1))) (gSub (tVar 0) (tC (.int 1)) rSetL))
  (tRet (tOp rModG (tCB rInt1 (tCons (tOp rDivG (tOp (rIx K) (tVar 0) (tC (.int 0))) (tC (.int 7))) tNil)) (tVar 1)))))))
abbrev s__law_roll : Stmt := (top 25)
theorem sc__law_roll : FnScope N__law_roll ["dice", "many"] (defScope s__law_roll) := ⟨rfl, rfl, rfl, by decide +kernel, rfl, by decide +kernel, by decide +kernel⟩
theorem der__law_roll (T : Txt K mg) {f : Addr} {cdv : Value} {A : Around} {outer : List Env} {s : Shared} {H : Hp} {E : XK} (hr : Room 0 (A.deeper (envOfC "_law_roll" (defScope s__law_roll) s.heap.objs.size f cdv))) :
    PSs (cxOf (L2.CX P w) P w K mg base N__law_roll "_law_roll" (defScope s__law_roll) f cdv A outer s H E) (defBody s__law_roll) (t__law_roll K (wDef E)) :=
  (pss_cons (ps_if (PW.pt (pw_or (pt_cmpR (op_eqG hr.units) (pe_ix ix_seq (pv 0) pe_int (fun _ _ => rfl)) pe_int (nomark _)) (pw_or1 (PW.pt (pw_and (pt_cmpR (op_eqG hr.units) (pe_ix ix_seq (pv 0) pe_int (fun _ _ => rfl)) pe_int (nomark _)) (pw_and1 (pt_cmpR op_gtG (pe_ix ix_seq (pv 0) pe_int (fun _ _ => rfl)) pe_int (nomark _)))))))) (pss_cons (ps_set (i := 2) sc__law_roll.nd rfl (by first | exact Or.inl rfl | exact Or.inr rfl) (pe_op op_modG (pe_callTy call_intG rfl T.n_int PyProof.Rows.boot_int (pa_cons (pe_ix ix_seq (pv 0) pe_int (fun _ _ => rfl)) pa_nil)) (pv 1)))
  (pss_cons (ps_asg (pe_op op_divG (pe_ix ix_seq (pv 0) pe_int (fun _ _ => rfl)) (pv 1)) (pg_sub (pv 0) pe_int set_list))
  (pss_one (ps_ret (pv 2))))) pss_nil)
  (pss_cons (ps_asg pe_int (pg_sub (pv 0) pe_int set_list))
  (pss_cons (ps_asg (pe_op op_modG (pe_callTy call_intG rfl T.n_int PyProof.Rows.boot_int (pa_cons (pe_op op_addG (pe_op op_addG (pe_op op_mulG (pe_ix ix_seq (pv 0) pe_int (fun _ _ => rfl)) pe_int) (pe_op op_mulG (pe_ix ix_seq (pv 0) pe_int (fun _ _ => rfl)) pe_int)) pe_int) pa_nil)) pe_int) (pg_sub (pv 0) pe_int set_list))
  (pss_cons (ps_asg (pe_op op_addG (pe_ix ix_seq (pv 0) pe_int (fun _ _ => rfl)) pe_int) (pg_sub (pv 0) pe_int set_list))
  (pss_one (ps_ret (pe_op op_modG (pe_callTy call_intG rfl T.n_int PyProof.Rows.boot_int (pa_cons (pe_op op_divG (pe_ix ix_seq (pv 0) pe_int (fun _ _ => rfl)) pe_int) pa_nil)) (pv 1))))))))

/-! _law_sum: level 1 -/
abbrev N__law_sum : List Str := ["numbers", "first", "second", "number", "whole"]
def t__law_sum (K : PySem.W.Frag) (W : WX) : TS :=
  (tSeq (tAsg (tTup (tCons (tC (.int 1)) (tCons (tC (.int 0)) tNil))) (gTup K 2 (gCons (gName 1) (gCons (gName 2) gNil))))
  (tSeq (tFor (iSeq K (tVar 0)) (gName 3) (tSeq (tAsg (tOp rModG (tCB rInt1 (tCons (tOp (rAddG K) (tVar 1) (tVar 3)) tNil)) (tC (.int 65521))) (gName 1))
  (tAsg (tOp rModG (tCB rInt1 (tCons (tOp (rAddG K) (tVar 2) (tVar 1)) tNil)) (tC (.int 65521))) (gName 2))))
  (tSeq (tAsg (tOp (rAddG K) (tOp rMulG (tVar 2) (tC (.int 65536))) (tVar 1)) (gName 4))
  (tRet (tTup (tCons (tOp rModG (tOp rDivG (tVar 4) (tOp rPowG (tC (.int 256)) (tC (.int 3)))) (tC (.int 256))) (tCons (tOp rModG (tOp rDivG (tVar 4) (tOp rPowG (tC (.int 256)) (tC (.int 2)))) (tC (.int 256))) (tCons (tOp rModG (tOp rDivG (tVar 4) (tC (.int 256))) (tC (.int 256))) (tCons (tOp rModG (tVar 4) (tC (.int 256))) tNil)))))))))
abbrev s__law_sum : Stmt := (top 29)
theorem sc__law_sum : FnScope N__law_sum ["numbers"] (defScope s__law_sum) := ⟨rfl, rfl, rfl, by decide +kernel, rfl, by decide +kernel, by decide +kernel⟩
theorem der__law_sum (T : Txt K mg) {f : Addr} {cdv : Value} {A : Around} {outer : List Env} {s : Shared} {H : Hp} {E : XK} (hr : Room 0 (A.deeper (envOfC "_law_sum" (defScope s__law_sum) s.heap.objs.size f cdv))) :
    PSs (cxOf (L2.CX P w) P w K mg base N__law_sum "_law_sum" (defScope s__law_sum) f cdv A outer s H E) (defBody s__law_sum) (t__law_sum K (wDef E)) :=
  (pss_cons (ps_asg (pe_tup (pa_cons pe_int (pa_cons pe_int pa_nil))) (pg_tup rfl (pgs_cons (pg_name (i := 1) sc__law_sum.nd rfl (by first | exact Or.inl rfl | exact Or.inr rfl)) (pgs_cons (pg_name (i := 2) sc__law_sum.nd rfl (by first | exact Or.inl rfl | exact Or.inr rfl)) pgs_nil))))
  (pss_cons (ps_for (passes_of rfl) rfl (pi_seq (pv 0)) (pg_name (i := 3) sc__law_sum.nd rfl (by first | exact Or.inl rfl | exact Or.inr rfl)) (pss_cons (ps_set (i := 1) sc__law_sum.nd rfl (by first | exact Or.inl rfl | exact Or.inr rfl) (pe_op op_modG (pe_callTy call_intG rfl T.n_int PyProof.Rows.boot_int (pa_cons (pe_op op_addG (pv 1) (pv 3)) pa_nil)) pe_int))
  (pss_one (ps_set (i := 2) sc__law_sum.nd rfl (by first | exact Or.inl rfl | exact Or.inr rfl) (pe_op op_modG (pe_callTy call_intG rfl T.n_int PyProof.Rows.boot_int (pa_cons (pe_op op_addG (pv 2) (pv 1)) pa_nil)) pe_int)))))
  (pss_cons (ps_set (i := 4) sc__law_sum.nd rfl (by first | exact Or.inl rfl | exact Or.inr rfl) (pe_op op_addG (pe_op op_mulG (pv 2) pe_int) (pv 1)))
  (pss_one (ps_ret (pe_tup (pa_cons (pe_op op_modG (pe_op op_divG (pv 4) (pe_op op_powG pe_int pe_int)) pe_int) (pa_cons (pe_op op_modG (pe_op op_divG (pv 4) (pe_op op_powG pe_int pe_int)) pe_int) (pa_cons (pe_op op_modG (pe_op op_divG (pv 4) pe_int) pe_int) (pa_cons (pe_op op_modG (pv 4) pe_int) pa_nil))))))))))

/-! _law_natural: level 1 -/
abbrev N__law_natural : List Str := ["number", "found", "turn"]
def t__law_natural (K : PySem.W.Frag) (W : WX) : TS :=
  (tSeq (tAsg (tTup tNil) (gName 1))
  (tSeq (tFor (iRng1 (tCons (tC (.int 20)) tNil)) (gName 2) (tSeq (tIfS (tTest (tOp (rLtG K) (tVar 0) (tC (.int 128)))) tBreak tNext)
  (tSeq (tAsg (tOp (rAddG K) (tVar 1) (tTup (tCons (tOp (rAddG K) (tC (.int 128)) (tOp rModG (tVar 0) (tC (.int 128)))) tNil))) (gName 1))
  (tAsg (tOp rDivG (tVar 0) (tC (.int 128))) (gName 0)))))
  (tRet (tOp (rAddG K) (tVar 1) (tTup (tCons (tVar 0) tNil))))))
abbrev s__law_natural : Stmt := (top 30)
theorem sc__law_natural : FnScope N__law_natural ["number"] (defScope s__law_natural) := ⟨rfl, rfl, rfl, by decide +kernel, rfl, by decide +kernel, by decide +kernel⟩
theorem der__law_natural (T : Txt K mg) {f : Addr} {cdv : Value} {A : Around} {outer : List Env} {s : Shared} {H : Hp} {E : XK} (hr : Room 0 (A.deeper (envOfC "_law_natural" (defScope s__law_natural) s.heap.objs.size f cdv))) :
    PSs (cxOf (L2.CX P w) P w K mg base N__law_natural "_law_natural" (defScope s__law_natural) f cdv A outer s H E) (defBody s__law_natural) (t__law_natural K (wDef E)) :=
  (pss_cons (ps_set (i := 1) sc__law_natural.nd rfl (by first | exact Or.inl rfl | exact Or.inr rfl) (pe_tup pa_nil))
  (pss_cons (ps_for (passes_of rfl) rfl (pi_range1 rfl T.n_range (pa_cons pe_int pa_nil)) (pg_name (i := 2) sc__law_natural.nd rfl (by first | exact Or.inl rfl | exact Or.inr rfl)) (pss_cons (ps_if (pt_cmpR (op_ltG hr.units0) (pv 0) pe_int (nomark _)) (pss_one ps_break) pss_nil)
  (pss_cons (ps_set (i := 1) sc__law_natural.nd rfl (by first | exact Or.inl rfl | exact Or.inr rfl) (pe_op op_addG (pv 1) (pe_tup (pa_cons (pe_op op_addG pe_int (pe_op op_modG (pv 0) pe_int)) pa_nil))))
  (pss_one (ps_set (i := 0) sc__law_natural.nd rfl (by first | exact Or.inl rfl | exact Or.inr rfl) (pe_op op_divG (pv 0) pe_int))))))
  (pss_one (ps_ret (pe_op op_addG (pv 1) (pe_tup (pa_cons (pv 0) pa_nil)))))))

/-! _law_sums: level 1 -/
abbrev N__law_sums : List Str := ["data", "first", "second", "number"]
def t__law_sums (K : PySem.W.Frag) (W : WX) : TS :=
  (tSeq (tAsg (tTup (tCons (tC (.int 1)) (tCons (tC (.int 0)) tNil))) (gTup K 2 (gCons (gName 1) (gCons (gName 2) gNil))))
  (tSeq (tFor (iSeq K (tVar 0)) (gName 3) (tSeq (tAsg (tOp rModG (tOp (rAddG K) (tVar 1) (tVar 3)) (tC (.int 65521))) (gName 1))
  (tAsg (tOp rModG (tOp (rAddG K) (tVar 2) (tVar 1)) (tC (.int 65521))) (gName 2))))
  (tRet (tTup (tCons (tOp rDivG (tVar 2) (tC (.int 256))) (tCons (tOp rModG (tVar 2) (tC (.int 256))) (tCons (tOp rDivG (tVar 1) (tC (.int 256))) (tCons (tOp rModG (tVar 1) (tC (.int 256))) tNil))))))))
abbrev s__law_sums : Stmt := (top 33)
theorem sc__law_sums : FnScope N__law_sums ["data"] (defScope s__law_sums) := ⟨rfl, rfl, rfl, by decide +kernel, rfl, by decide +kernel, by decide +kernel⟩
theorem der__law_sums (T : Txt K mg) {f : Addr} {cdv : Value} {A : Around} {outer : List Env} {s : Shared} {H : Hp} {E : XK} (hr : Room 0 (A.deeper (envOfC "_law_sums" (defScope s__law_sums) s.heap.objs.size f cdv))) :
    PSs (cxOf (L2.CX P w) P w K mg base N__law_sums "_law_sums" (defScope s__law_sums) f cdv A outer s H E) (defBody s__law_sums) (t__law_sums K (wDef E)) :=
  (pss_cons (ps_asg (pe_tup (pa_cons pe_int (pa_cons pe_int pa_nil))) (pg_tup rfl (pgs_cons (pg_name (i := 1) sc__law_sums.nd rfl (by first | exact Or.inl rfl | exact Or.inr rfl)) (pgs_cons (pg_name (i := 2) sc__law_sums.nd rfl (by first | exact Or.inl rfl | exact Or.inr rfl)) pgs_nil))))
  (pss_cons (ps_for (passes_of rfl) rfl (pi_seq (pv 0)) (pg_name (i := 3) sc__law_sums.nd rfl (by first | exact Or.inl rfl | exact Or.inr rfl)) (pss_cons (ps_set (i := 1) sc__law_sums.nd rfl (by first | exact Or.inl rfl | exact Or.inr rfl) (pe_op op_modG (pe_op op_addG (pv 1) (pv 3)) pe_int))
  (pss_one (ps_set (i := 2) sc__law_sums.nd rfl (by first | exact Or.inl rfl | exact Or.inr rfl) (pe_op op_modG (pe_op op_addG (pv 2) (pv 1)) pe_int)))))
  (pss_one (ps_ret (pe_tup (pa_cons (pe_op op_divG (pv 2) pe_int) (pa_cons (pe_op op_modG (pv 2) pe_int) (pa_cons (pe_op op_divG (pv 1) pe_int) (pa_cons (pe_op op_modG (pv 1) pe_int) pa_nil)))))))))

/-! _law_number: level 1 -/
abbrev N__law_number : List Str := ["data", "place", "found", "weight"]
def t__law_number (K : PySem.W.Frag) (W : WX) : TS :=
  (tSeq (tAsg (tTup (tCons (tC (.int 0)) (tCons (tC (.int 1)) tNil))) (gTup K 2 (gCons (gName 2) (gCons (gName 3) gNil))))
  (tSeq (tWhile (tTest (tOp (rLtG K) (tVar 1) (tCB (rLenC K) (tCons (tVar 0) tNil)))) (tSeq (tPar3 2 3 1 (tCons (tOp (rAddG K) (tVar 2) (tOp rMulG (tOp rModG (tOp (rIx K) (tVar 0) (tVar 1)) (tC (.int 128))) (tVar 3))) (tCons (tOp rMulG (tVar 3) (tC (.int 128))) (tCons (tOp (rAddG K) (tVar 1) (tC (.int 1))) tNil))))
  (tIfS (tTest (tOp (rLtG K) (tOp (rIx K) (tVar 0) (tOp rSubG (tVar 1) (tC (.int 1)))) (tC (.int 128)))) (tRet (tIf (tAnd (tTest (tOp (rEqG K) (tOp (rIx K) (tVar 0) (tOp rSubG (tVar 1) (tC (.int 1)))) (tC (.int 0)))) (tTest (tOp rGtG (tVar 3) (tC (.int 128))))) (tC .non) (tTup (tCons (tVar 2) (tCons (tVar 1) tNil))))) tNext)))
  (tRet (tC .non))))
abbrev s__law_number : Stmt := (top 34)
theorem sc__law_number : FnScope N__law_number ["data", "place"] (defScope s__law_number) := ⟨rfl, rfl, rfl, by decide +kernel, rfl, by decide +kernel, by decide +kernel⟩
theorem der__law_number (T : Txt K mg) {f : Addr} {cdv : Value} {A : Around} {outer : List Env} {s : Shared} {H : Hp} {E : XK} (hr : Room 0 (A.deeper (envOfC "_law_number" (defScope s__law_number) s.heap.objs.size f cdv))) :
    PSs (cxOf (L2.CX P w) P w K mg base N__law_number "_law_number" (defScope s__law_number) f cdv A outer s H E) (defBody s__law_number) (t__law_number K (wDef E)) :=
  (pss_cons (ps_asg (pe_tup (pa_cons pe_int (pa_cons pe_int pa_nil))) (pg_tup rfl (pgs_cons (pg_name (i := 2) sc__law_number.nd rfl (by first | exact Or.inl rfl | exact Or.inr rfl)) (pgs_cons (pg_name (i := 3) sc__law_number.nd rfl (by first | exact Or.inl rfl | exact Or.inr rfl)) pgs_nil))))
  (pss_cons (ps_while (passes_of rfl) (pt_cmpR (op_ltG hr.units0) (pv 1) (pe_callB call_lenG rfl T.n_len boot_len (pa_cons (pv 0) pa_nil)) (nomark _)) (pss_cons (ps_par3 (i := 2) (j := 3) (l := 1) rfl sc__law_number.nd rfl rfl rfl (by decide) (by decide) (by decide) rfl rfl rfl (pa_cons (pe_op op_addG (pv 2) (pe_op op_mulG (pe_op op_modG (pe_ix ix_seq (pv 0) (pv 1) (fun _ _ => rfl)) pe_int) (pv 3))) (pa_cons (pe_op op_mulG (pv 3) pe_int) (pa_cons (pe_op op_addG (pv 1) pe_int) pa_nil))) rfl)
  (pss_one (ps_if (pt_cmpR (op_ltG hr.units0) (pe_ix ix_seq (pv 0) (pe_op op_subG (pv 1) pe_int) (fun _ _ => rfl)) pe_int (nomark _)) (pss_one (ps_ret (pe_ifExp (PW.pt (pw_and (pt_cmpR (op_eqG hr.units) (pe_ix ix_seq (pv 0) (pe_op op_subG (pv 1) pe_int) (fun _ _ => rfl)) pe_int (nomark _)) (pw_and1 (pt_cmpR op_gtG (pv 3) pe_int (nomark _))))) pe_non (pe_tup (pa_cons (pv 2) (pa_cons (pv 1) pa_nil)))))) pss_nil))))
  (pss_one (ps_ret pe_non))))

/-! checksum: level 2 -/
abbrev N_checksum : List Str := ["data", "first", "second", "one"]
def t_checksum (K : PySem.W.Frag) (W : WX) (sp_fixed : Sp) : TS :=
  (tSeq (tAsg (tTup (tCons (tC (.int 1)) (tCons (tC (.int 0)) tNil))) (gTup K 2 (gCons (gName 1) (gCons (gName 2) gNil))))
  (tSeq (tFor (iSeq K (tVar 0)) (gName 3) (tSeq (tAsg (tOp rModG (tOp (rAddG K) (tVar 1) (tVar 3)) (tC (.int 65521))) (gName 1))
  (tAsg (tOp rModG (tOp (rAddG K) (tVar 2) (tVar 1)) (tC (.int 65521))) (gName 2))))
  (tRet (tCallS sp_fixed (WE W) (tCons (tOp (rAddG K) (tOp rMulG (tVar 2) (tC (.int 65536))) (tVar 1)) (tCons (tC (.int 4)) tNil))))))
abbrev s_checksum : Stmt := (top 10)
theorem sc_checksum : FnScope N_checksum ["data"] (defScope s_checksum) := ⟨rfl, rfl, rfl, by decide +kernel, rfl, by decide +kernel, by decide +kernel⟩
theorem der_checksum {sp_fixed : Sp} (T : Txt K mg) (c_fixed : Cal P w K mg base 1 "fixed" sp_fixed) {f : Addr} {cdv : Value} {A : Around} {outer : List Env} {s : Shared} {H : Hp} {E : XK} (hr : Room 1 (A.deeper (envOfC "checksum" (defScope s_checksum) s.heap.objs.size f cdv))) :
    PSs (cxOf (L2.CX P w) P w K mg base N_checksum "checksum" (defScope s_checksum) f cdv A outer s H E) (defBody s_checksum) (t_checksum K (wDef E) sp_fixed) :=
  (pss_cons (ps_asg (pe_tup (pa_cons pe_int (pa_cons pe_int pa_nil))) (pg_tup rfl (pgs_cons (pg_name (i := 1) sc_checksum.nd rfl (by first | exact Or.inl rfl | exact Or.inr rfl)) (pgs_cons (pg_name (i := 2) sc_checksum.nd rfl (by first | exact Or.inl rfl | exact Or.inr rfl)) pgs_nil))))
  (pss_cons (ps_for (passes_of rfl) rfl (pi_seq (pv 0)) (pg_name (i := 3) sc_checksum.nd rfl (by first | exact Or.inl rfl | exact Or.inr rfl)) (pss_cons (ps_set (i := 1) sc_checksum.nd rfl (by first | exact Or.inl rfl | exact Or.inr rfl) (pe_op op_modG (pe_op op_addG (pv 1) (pv 3)) pe_int))
  (pss_one (ps_set (i := 2) sc_checksum.nd rfl (by first | exact Or.inl rfl | exact Or.inr rfl) (pe_op op_modG (pe_op op_addG (pv 2) (pv 1)) pe_int)))))
  (pss_one (ps_ret (pe_cal c_fixed hr (by decide) rfl (fun σ => passAt (takes_of rfl rfl rfl rfl) σ) (pa_cons (pe_op op_addG (pe_op op_mulG (pv 2) pe_int) (pv 1)) (pa_cons pe_int pa_nil)))))))

/-! read_record: level 2 -/
abbrev N_read_record : List Str := ["payload", "number", "place"]
def t_read_record (K : PySem.W.Frag) (W : WX) (sp_natural_from : Sp) : TS :=
  (tSeq (tIfS (tOr (tTest (tOp (rEqG K) (tCB (rLenC K) (tCons (tVar 0) tNil)) (tC (.int 0)))) (tTest (tOp (rInG K true) (tOp (rIx K) (tVar 0) (tC (.int 0))) (tTup (tCons (tC (.int 1)) (tCons (tC (.int 2)) tNil)))))) (fun _ σ H => W (.ref (He.ga K "LogFault")) none σ H) tNext)
  (tSeq (tTry K (.ref (He.ga K "RecordFault")) (fun _ σ H => W (.ref (He.ga K "LogFault")) none σ H) W (fun W2 => (tAsg (tCallS sp_natural_from (WE W2) (tCons (tVar 0) (tCons (tC (.int 1)) tNil))) (gTup K 2 (gCons (gName 1) (gCons (gName 2) gNil))))))
  (tSeq (tIfS (tTest (tOp (rEqG K) (tOp (rIx K) (tVar 0) (tC (.int 0))) (tC (.int 1)))) (tRet (tTup (tCons (tC (.str "image")) (tCons (tVar 1) (tCons (tSl (rSlG K) (tVar 0) (tPart (tVar 2)) tNoPart) tNil))))) tNext)
  (tSeq (tIfS (tTest (tOp (rNeG K) (tVar 2) (tCB (rLenC K) (tCons (tVar 0) tNil)))) (fun _ σ H => W (.ref (He.ga K "LogFault")) none σ H) tNext)
  (tRet (tTup (tCons (tC (.str "end")) (tCons (tVar 1) tNil))))))))
abbrev s_read_record : Stmt := (top 20)
theorem sc_read_record : FnScope N_read_record ["payload"] (defScope s_read_record) := ⟨rfl, rfl, rfl, by decide +kernel, rfl, by decide +kernel, by decide +kernel⟩
theorem der_read_record {sp_natural_from : Sp} (T : Txt K mg) (c_natural_from : CalN P w K mg base 1 "natural_from" sp_natural_from) {f : Addr} {cdv : Value} {A : Around} {outer : List Env} {s : Shared} {H : Hp} {E : XK} (hr : Room 1 (A.deeper (envOfC "read_record" (defScope s_read_record) s.heap.objs.size f cdv))) :
    PSs (cxOf (L2.CX P w) P w K mg base N_read_record "read_record" (defScope s_read_record) f cdv A outer s H E) (defBody s_read_record) (t_read_record K (wDef E) sp_natural_from) :=
  (pss_cons (ps_if (PW.pt (pw_or (pt_cmpR (op_eqG hr.units) (pe_callB call_lenG rfl T.n_len boot_len (pa_cons (pv 0) pa_nil)) pe_int (nomark _)) (pw_or1 (pt_cmpR op_notInG (pe_ix ix_seq (pv 0) pe_int (fun _ _ => rfl)) (pe_tup (pa_cons (pe_globI T.c_IMAGE) (pa_cons (pe_globI T.c_END) pa_nil))) rfl)))) (pss_one (ps_raise rfl (takes_of rfl rfl rfl rfl) (pmk_own PySem.F.excBase_ValueError T.x_LogFault T.g_LogFault T.k_LogFault (raises_own T.b_LogFault T.t_LogFault) (by rfl)))) pss_nil)
  (pss_cons (ps_tryN rfl rfl (by rfl) T.g_RecordFault (fun hd => by passes_own) (takes_of rfl rfl rfl rfl) (fun W2 pn xe tkW2 poW2 => (pss_one (ps_asg (pe_calN c_natural_from hr (by decide) rfl (fun σ => L2N.passAt tkW2 σ) (pa_cons (pv 0) (pa_cons pe_int pa_nil))) (pg_tup rfl (pgs_cons (pg_name (i := 1) sc_read_record.nd rfl (by first | exact Or.inl rfl | exact Or.inr rfl)) (pgs_cons (pg_name (i := 2) sc_read_record.nd rfl (by first | exact Or.inl rfl | exact Or.inr rfl)) pgs_nil)))))) (fun a oe pn tkh hot => (pss_one (L2H.ps_raiseHN hot tkh (pmk5_own PySem.F.excBase_ValueError T.x_LogFault T.g_LogFault T.k_LogFault (raises_own T.b_LogFault T.t_LogFault) (by rfl))))))
  (pss_cons (ps_if (pt_cmpR (op_eqG hr.units) (pe_ix ix_seq (pv 0) pe_int (fun _ _ => rfl)) (pe_globI T.c_IMAGE) (nomark _)) (pss_one (ps_ret (pe_tup (pa_cons pe_str (pa_cons (pv 1) (pa_cons (pe_slice sl_G (pv 0) (po_some (pv 2)) po_none) pa_nil)))))) pss_nil)
  (pss_cons (ps_if (pt_cmpR (op_neG hr.units) (pv 2) (pe_callB call_lenG rfl T.n_len boot_len (pa_cons (pv 0) pa_nil)) (nomark _)) (pss_one (ps_raise rfl (takes_of rfl rfl rfl rfl) (pmk_own PySem.F.excBase_ValueError T.x_LogFault T.g_LogFault T.k_LogFault (raises_own T.b_LogFault T.t_LogFault) (by rfl)))) pss_nil)
  (pss_one (ps_ret (pe_tup (pa_cons pe_str (pa_cons (pv 1) pa_nil)))))))))

/-! _law_rounds: level 2 -/
abbrev N__law_rounds : List Str := ["script", "most", "cells", "cell"]
def t__law_rounds (K : PySem.W.Frag) (W : WX) (sp__law_dice : Sp) : TS :=
  (tSeq (tAsg (tSl (rSlG K) (tVar 0) tNoPart (tPart (tVar 1))) (gName 2))
  (tSeq (tIfS (tTest (tOp (rEqG K) (tVar 2) (tLst tNil))) (tAsg (tLst (tCons (tC (.int 0)) tNil)) (gName 2)) tNext)
  (tRet (tLc (iSeq K (tVar 2)) (gName 3) tYes (tCallS sp__law_dice E00 (tCons (tVar 3) tNil)) [3]))))
abbrev s__law_rounds : Stmt := (top 26)
theorem sc__law_rounds : FnScope N__law_rounds ["script", "most"] (defScope s__law_rounds) := ⟨rfl, rfl, rfl, by decide +kernel, rfl, by decide +kernel, by decide +kernel⟩
theorem der__law_rounds {sp__law_dice : Sp} (T : Txt K mg) (c__law_dice : Cal P w K mg base 1 "_law_dice" sp__law_dice) {f : Addr} {cdv : Value} {A : Around} {outer : List Env} {s : Shared} {H : Hp} {E : XK} (hr : Room 1 (A.deeper (envOfC "_law_rounds" (defScope s__law_rounds) s.heap.objs.size f cdv))) :
    PSs (cxOf (L2.CX P w) P w K mg base N__law_rounds "_law_rounds" (defScope s__law_rounds) f cdv A outer s H E) (defBody s__law_rounds) (t__law_rounds K (wDef E) sp__law_dice) :=
  (pss_cons (ps_set (i := 2) sc__law_rounds.nd rfl (by first | exact Or.inl rfl | exact Or.inr rfl) (pe_slice sl_G (pv 0) po_none (po_some (pv 1))))
  (pss_cons (ps_if (pt_cmpR (op_eqG hr.units) (pv 2) (pe_lst pa_nil) (nomark _)) (pss_one (ps_set (i := 2) sc__law_rounds.nd rfl (by first | exact Or.inl rfl | exact Or.inr rfl) (pe_lst (pa_cons pe_int pa_nil)))) pss_nil)
  (pss_one (ps_ret (pe_lc (own := [("cell", 3)]) (g := (gName 3)) rfl sc__law_rounds.nd (pi_seq (pv 2)) (blkOk_by (N := N__law_rounds) (sc := defScope s__law_rounds) (own := [("cell", 3)]) (by decide +kernel)) (fun _ _ _ _ _ => (pg_name (i := 3) sc__law_rounds.nd rfl (by first | exact Or.inl rfl | exact Or.inr rfl))) (fun _ _ _ _ _ => pts_nil) (fun _ _ _ _ _ => (pe_cal c__law_dice hr (by decide) rfl (fun σ => passE) (pa_cons (pv 3) pa_nil))))))))

/-! _law_group: level 2 -/
abbrev N__law_group : List Str := ["dice", "images", "turn", "k"]
def t__law_group (K : PySem.W.Frag) (W : WX) (sp__law_roll : Sp) : TS :=
  (tSeq (tAsg (tLst tNil) (gName 1))
  (tSeq (tFor (iRng1 (tCons (tCallS sp__law_roll (WE W) (tCons (tVar 0) (tCons (tC (.int 4)) tNil))) tNil)) (gName 2) (tDrop (tBM K "list" rAppend (tVar 1) (tCons (tTup (tCons (tCallS sp__law_roll (WE W) (tCons (tVar 0) (tCons (tC (.int 500)) tNil))) (tCons (tCB (rTupO K) (tCons (tLc (iRng1 (tCons (tCallS sp__law_roll (WE W) (tCons (tVar 0) (tCons (tC (.int 10)) tNil))) tNil)) (gName 3) tYes (tCallS sp__law_roll E00 (tCons (tVar 0) (tCons (tC (.int 256)) tNil))) [3]) tNil)) tNil))) tNil))))
  (tRet (tTup (tCons (tCallS sp__law_roll (WE W) (tCons (tVar 0) (tCons (tOp rPowG (tC (.int 10)) (tC (.int 6))) tNil))) (tCons (tCB (rTupO K) (tCons (tVar 1) tNil)) tNil))))))
abbrev s__law_group : Stmt := (top 28)
theorem sc__law_group : FnScope N__law_group ["dice"] (defScope s__law_group) := ⟨rfl, rfl, rfl, by decide +kernel, rfl, by decide +kernel, by decide +kernel⟩
theorem der__law_group {sp__law_roll : Sp} (T : Txt K mg) (c__law_roll : Cal P w K mg base 1 "_law_roll" sp__law_roll) {f : Addr} {cdv : Value} {A : Around} {outer : List Env} {s : Shared} {H : Hp} {E : XK} (hr : Room 1 (A.deeper (envOfC "_law_group" (defScope s__law_group) s.heap.objs.size f cdv))) :
    PSs (cxOf (L2.CX P w) P w K mg base N__law_group "_law_group" (defScope s__law_group) f cdv A outer s H E) (defBody s__law_group) (t__law_group K (wDef E) sp__law_roll) :=
  (pss_cons (ps_set (i := 1) sc__law_group.nd rfl (by first | exact Or.inl rfl | exact Or.inr rfl) (pe_lst pa_nil))
  (pss_cons (ps_for (passes_of rfl) rfl (pi_range1 rfl T.n_range (pa_cons (pe_cal c__law_roll hr (by decide) rfl (fun σ => passAt (takes_of rfl rfl rfl rfl) σ) (pa_cons (pv 0) (pa_cons pe_int pa_nil))) pa_nil)) (pg_name (i := 2) sc__law_group.nd rfl (by first | exact Or.inl rfl | exact Or.inr rfl)) (pss_one (ps_expr (pe_bm PySem.F.plainAttrs_list PySem.F.slot_list_append PySem.F.type_list_append mt_append (pv 1) (pa_cons (pe_tup (pa_cons (pe_cal c__law_roll hr (by decide) rfl (fun σ => passAt (takes_of rfl rfl rfl rfl) σ) (pa_cons (pv 0) (pa_cons pe_int pa_nil))) (pa_cons (pe_callTy call_tupG rfl T.n_tuple PyProof.Rows.boot_tuple (pa_cons (pe_lc (own := [("k", 3)]) (g := (gName 3)) rfl sc__law_group.nd (pi_range1 rfl T.n_range (pa_cons (pe_cal c__law_roll hr (by decide) rfl (fun σ => passAt (takes_of rfl rfl rfl rfl) σ) (pa_cons (pv 0) (pa_cons pe_int pa_nil))) pa_nil)) (blkOk_by (N := N__law_group) (sc := defScope s__law_group) (own := [("k", 3)]) (by decide +kernel)) (fun _ _ _ _ _ => (pg_name (i := 3) sc__law_group.nd rfl (by first | exact Or.inl rfl | exact Or.inr rfl))) (fun _ _ _ _ _ => pts_nil) (fun _ _ _ _ _ => (pe_cal c__law_roll hr (by decide) rfl (fun σ => passE) (pa_cons (pv 0) (pa_cons pe_int pa_nil))))) pa_nil)) pa_nil))) pa_nil)))))
  (pss_one (ps_ret (pe_tup (pa_cons (pe_cal c__law_roll hr (by decide) rfl (fun σ => passAt (takes_of rfl rfl rfl rfl) σ) (pa_cons (pv 0) (pa_cons (pe_op op_powG pe_int pe_int) pa_nil))) (pa_cons (pe_callTy call_tupG rfl T.n_tuple PyProof.Rows.boot_tuple (pa_cons (pv 1) pa_nil)) pa_nil)))))))

/-! _law_frame: level 2 -/
abbrev N__law_frame : List Str := ["payload", "size"]
def t__law_frame (K : PySem.W.Frag) (W : WX) (sp__law_sum : Sp) : TS :=
  (tSeq (tAsg (tCB (rLenC K) (tCons (tVar 0) tNil)) (gName 1))
  (tRet (tOp (rAddG K) (tOp (rAddG K) (tTup (tCons (tOp rDivG (tVar 1) (tOp rPowG (tC (.int 256)) (tC (.int 3)))) (tCons (tOp rModG (tOp rDivG (tVar 1) (tOp rPowG (tC (.int 256)) (tC (.int 2)))) (tC (.int 256))) (tCons (tOp rModG (tOp rDivG (tVar 1) (tC (.int 256))) (tC (.int 256))) (tCons (tOp rModG (tVar 1) (tC (.int 256))) tNil))))) (tVar 0)) (tCallS sp__law_sum (WE W) (tCons (tVar 0) tNil)))))
abbrev s__law_frame : Stmt := (top 31)
theorem sc__law_frame : FnScope N__law_frame ["payload"] (defScope s__law_frame) := ⟨rfl, rfl, rfl, by decide +kernel, rfl, by decide +kernel, by decide +kernel⟩
theorem der__law_frame {sp__law_sum : Sp} (T : Txt K mg) (c__law_sum : Cal P w K mg base 1 "_law_sum" sp__law_sum) {f : Addr} {cdv : Value} {A : Around} {outer : List Env} {s : Shared} {H : Hp} {E : XK} (hr : Room 1 (A.deeper (envOfC "_law_frame" (defScope s__law_frame) s.heap.objs.size f cdv))) :
    PSs (cxOf (L2.CX P w) P w K mg base N__law_frame "_law_frame" (defScope s__law_frame) f cdv A outer s H E) (defBody s__law_frame) (t__law_frame K (wDef E) sp__law_sum) :=
  (pss_cons (ps_set (i := 1) sc__law_frame.nd rfl (by first | exact Or.inl rfl | exact Or.inr rfl) (pe_callB call_lenG rfl T.n_len boot_len (pa_cons (pv 0) pa_nil)))
  (pss_one (ps_ret (pe_op op_addG (pe_op op_addG (pe_tup (pa_cons (pe_op op_divG (pv 1) (pe_op op_powG pe_int pe_int)) (pa_cons (pe_op op_modG (pe_op op_divG (pv 1) (pe_op op_powG pe_int pe_int)) pe_int) (pa_cons (pe_op op_modG (pe_op op_divG (pv 1) pe_int) pe_int) (pa_cons (pe_op op_modG (pv 1) pe_int) pa_nil))))) (pv 0)) (pe_cal c__law_sum hr (by decide) rfl (fun σ => passAt (takes_of rfl rfl rfl rfl) σ) (pa_cons (pv 0) pa_nil))))))

/-! _law_read: level 2 -/
abbrev N__law_read : List Str := ["data", "place", "found", "images", "many", "payload", "end", "number"]
def t__law_read (K : PySem.W.Frag) (W : WX) (sp__law_number : Sp) (sp__law_sums : Sp) : TS :=
  (tSeq (tPar3 1 2 3 (tCons (tC (.int 0)) (tCons (tLst tNil) (tCons (tLst tNil) tNil))))
  (tSeq (tWhile (tTest (tOp rLeG (tOp (rAddG K) (tVar 1) (tC (.int 8))) (tCB (rLenC K) (tCons (tVar 0) tNil)))) (tSeq (tAsg (tOp (rAddG K) (tOp rMulG (tOp (rAddG K) (tOp rMulG (tOp (rAddG K) (tOp rMulG (tOp (rIx K) (tVar 0) (tVar 1)) (tC (.int 256))) (tOp (rIx K) (tVar 0) (tOp (rAddG K) (tVar 1) (tC (.int 1))))) (tC (.int 256))) (tOp (rIx K) (tVar 0) (tOp (rAddG K) (tVar 1) (tC (.int 2))))) (tC (.int 256))) (tOp (rIx K) (tVar 0) (tOp (rAddG K) (tVar 1) (tC (.int 3))))) (gName 4))
  (tSeq (tPar 5 6 (tCons (tCB (rTupO K) (tCons (tSl (rSlG K) (tVar 0) (tPart (tOp (rAddG K) (tVar 1) (tC (.int 4)))) (tPart (tOp (rAddG K) (tOp (rAddG K) (tVar 1) (tC (.int 4))) (tVar 4)))) tNil)) (tCons (tOp (rAddG K) (tOp (rAddG K) (tVar 1) (tVar 4)) (tC (.int 8))) tNil)))
  (tSeq (tIfS (tOr (tTest (tOp rGtG (tVar 6) (tCB (rLenC K) (tCons (tVar 0) tNil)))) (tOr (tTest (tOp (rNeG K) (tCallS sp__law_sums (WE W) (tCons (tVar 5) tNil)) (tCB (rTupO K) (tCons (tSl (rSlG K) (tVar 0) (tPart (tOp rSubG (tVar 6) (tC (.int 4)))) (tPart (tVar 6))) tNil)))) (tOr (tTest (tOp (rEqG K) (tVar 5) (tTup tNil))) (tTest (tOp (rInG K true) (tOp (rIx K) (tVar 5) (tC (.int 0))) (tLst (tCons (tC (.int 1)) (tCons (tC (.int 2)) tNil)))))))) (tRet (tVar 2)) tNext)
  (tSeq (tPar 7 1 (tCons (tCallS sp__law_number (WE W) (tCons (tVar 5) (tCons (tC (.int 1)) tNil))) (tCons (tVar 6) tNil)))
  (tSeq (tIfS (tOr (tTest (tOp rIsN (tVar 7) (tC .non))) (tAnd (tTest (tOp (rEqG K) (tOp (rIx K) (tVar 5) (tC (.int 0))) (tC (.int 2)))) (tTest (tOp (rNeG K) (tOp (rIx K) (tVar 7) (tC (.int 1))) (tCB (rLenC K) (tCons (tVar 5) tNil)))))) (tRet (tVar 2)) tNext)
  (tIfS (tTest (tOp (rEqG K) (tOp (rIx K) (tVar 5) (tC (.int 0))) (tC (.int 1)))) (tAsg (tOp (rAddG K) (tVar 3) (tLst (tCons (tTup (tCons (tOp (rIx K) (tVar 7) (tC (.int 0))) (tCons (tSl (rSlG K) (tVar 5) (tPart (tOp (rIx K) (tVar 7) (tC (.int 1)))) tNoPart) tNil))) tNil))) (gName 3)) (tPar 2 3 (tCons (tOp (rAddG K) (tVar 2) (tLst (tCons (tTup (tCons (tOp (rIx K) (tVar 7) (tC (.int 0))) (tCons (tCB (rTupO K) (tCons (tVar 3) tNil)) tNil))) tNil))) (tCons (tLst tNil) tNil))))))))))
  (tRet (tVar 2))))
abbrev s__law_read : Stmt := (top 35)
theorem sc__law_read : FnScope N__law_read ["data"] (defScope s__law_read) := ⟨rfl, rfl, rfl, by decide +kernel, rfl, by decide +kernel, by decide +kernel⟩
theorem der__law_read {sp__law_number : Sp} {sp__law_sums : Sp} (T : Txt K mg) (c__law_number : Cal P w K mg base 1 "_law_number" sp__law_number) (c__law_sums : Cal P w K mg base 1 "_law_sums" sp__law_sums) {f : Addr} {cdv : Value} {A : Around} {outer : List Env} {s : Shared} {H : Hp} {E : XK} (hr : Room 1 (A.deeper (envOfC "_law_read" (defScope s__law_read) s.heap.objs.size f cdv))) :
    PSs (cxOf (L2.CX P w) P w K mg base N__law_read "_law_read" (defScope s__law_read) f cdv A outer s H E) (defBody s__law_read) (t__law_read K (wDef E) sp__law_number sp__law_sums) :=
  (pss_cons (ps_par3 (i := 1) (j := 2) (l := 3) rfl sc__law_read.nd rfl rfl rfl (by decide) (by decide) (by decide) rfl rfl rfl (pa_cons pe_int (pa_cons (pe_lst pa_nil) (pa_cons (pe_lst pa_nil) pa_nil))) rfl)
  (pss_cons (ps_while (passes_of rfl) (pt_cmpR op_leG (pe_op op_addG (pv 1) pe_int) (pe_callB call_lenG rfl T.n_len boot_len (pa_cons (pv 0) pa_nil)) (nomark _)) (pss_cons (ps_set (i := 4) sc__law_read.nd rfl (by first | exact Or.inl rfl | exact Or.inr rfl) (pe_op op_addG (pe_op op_mulG (pe_op op_addG (pe_op op_mulG (pe_op op_addG (pe_op op_mulG (pe_ix ix_seq (pv 0) (pv 1) (fun _ _ => rfl)) pe_int) (pe_ix ix_seq (pv 0) (pe_op op_addG (pv 1) pe_int) (fun _ _ => rfl))) pe_int) (pe_ix ix_seq (pv 0) (pe_op op_addG (pv 1) pe_int) (fun _ _ => rfl))) pe_int) (pe_ix ix_seq (pv 0) (pe_op op_addG (pv 1) pe_int) (fun _ _ => rfl))))
  (pss_cons (ps_par (i := 5) (j := 6) rfl sc__law_read.nd rfl rfl (by decide) rfl rfl (pa_cons (pe_callTy call_tupG rfl T.n_tuple PyProof.Rows.boot_tuple (pa_cons (pe_slice sl_G (pv 0) (po_some (pe_op op_addG (pv 1) pe_int)) (po_some (pe_op op_addG (pe_op op_addG (pv 1) pe_int) (pv 4)))) pa_nil)) (pa_cons (pe_op op_addG (pe_op op_addG (pv 1) (pv 4)) pe_int) pa_nil)) rfl)
  (pss_cons (ps_if (PW.pt (pw_or (pt_cmpR op_gtG (pv 6) (pe_callB call_lenG rfl T.n_len boot_len (pa_cons (pv 0) pa_nil)) (nomark _)) (pw_or (pt_cmpR (op_neG hr.units) (pe_cal c__law_sums hr (by decide) rfl (fun σ => passAt (takes_of rfl rfl rfl rfl) σ) (pa_cons (pv 5) pa_nil)) (pe_callTy call_tupG rfl T.n_tuple PyProof.Rows.boot_tuple (pa_cons (pe_slice sl_G (pv 0) (po_some (pe_op op_subG (pv 6) pe_int)) (po_some (pv 6))) pa_nil)) (nomark _)) (pw_or (pt_cmpR (op_eqG hr.units) (pv 5) (pe_tup pa_nil) (nomark _)) (pw_or1 (pt_cmpR op_notInG (pe_ix ix_seq (pv 5) pe_int (fun _ _ => rfl)) (pe_lst (pa_cons pe_int (pa_cons pe_int pa_nil))) rfl)))))) (pss_one (ps_ret (pv 2))) pss_nil)
  (pss_cons (ps_par (i := 7) (j := 1) rfl sc__law_read.nd rfl rfl (by decide) rfl rfl (pa_cons (pe_cal c__law_number hr (by decide) rfl (fun σ => passAt (takes_of rfl rfl rfl rfl) σ) (pa_cons (pv 5) (pa_cons pe_int pa_nil))) (pa_cons (pv 6) pa_nil)) rfl)
  (pss_cons (ps_if (PW.pt (pw_or (pt_cmpR op_isNG (pv 7) pe_non (nomark _)) (pw_or1 (PW.pt (pw_and (pt_cmpR (op_eqG hr.units) (pe_ix ix_seq (pv 5) pe_int (fun _ _ => rfl)) pe_int (nomark _)) (pw_and1 (pt_cmpR (op_neG hr.units) (pe_ix ix_seq (pv 7) pe_int (fun _ _ => rfl)) (pe_callB call_lenG rfl T.n_len boot_len (pa_cons (pv 5) pa_nil)) (nomark _)))))))) (pss_one (ps_ret (pv 2))) pss_nil)
  (pss_one (ps_if (pt_cmpR (op_eqG hr.units) (pe_ix ix_seq (pv 5) pe_int (fun _ _ => rfl)) pe_int (nomark _)) (pss_one (ps_set (i := 3) sc__law_read.nd rfl (by first | exact Or.inl rfl | exact Or.inr rfl) (pe_op op_addG (pv 3) (pe_lst (pa_cons (pe_tup (pa_cons (pe_ix ix_seq (pv 7) pe_int (fun _ _ => rfl)) (pa_cons (pe_slice sl_G (pv 5) (po_some (pe_ix ix_seq (pv 7) pe_int (fun _ _ => rfl))) po_none) pa_nil))) pa_nil))))) (pss_one (ps_par (i := 2) (j := 3) rfl sc__law_read.nd rfl rfl (by decide) rfl rfl (pa_cons (pe_op op_addG (pv 2) (pe_lst (pa_cons (pe_tup (pa_cons (pe_ix ix_seq (pv 7) pe_int (fun _ _ => rfl)) (pa_cons (pe_callTy call_tupG rfl T.n_tuple PyProof.Rows.boot_tuple (pa_cons (pv 3) pa_nil)) pa_nil))) pa_nil))) (pa_cons (pe_lst pa_nil) pa_nil)) rfl))))))))))
  (pss_one (ps_ret (pv 2)))))

/-! frame: level 3 -/
abbrev N_frame : List Str := ["payload"]
def t_frame (K : PySem.W.Frag) (W : WX) (sp_checksum : Sp) (sp_fixed : Sp) : TS :=
  (tRet (tOp (rAddG K) (tOp (rAddG K) (tCallS sp_fixed (WE W) (tCons (tCB (rLenC K) (tCons (tVar 0) tNil)) (tCons (tC (.int 4)) tNil))) (tCB (rTupO K) (tCons (tVar 0) tNil))) (tCallS sp_checksum (WE W) (tCons (tVar 0) tNil))))
abbrev s_frame : Stmt := (top 16)
theorem sc_frame : FnScope N_frame ["payload"] (defScope s_frame) := ⟨rfl, rfl, rfl, by decide +kernel, rfl, by decide +kernel, by decide +kernel⟩
theorem der_frame {sp_checksum : Sp} {sp_fixed : Sp} (T : Txt K mg) (c_checksum : Cal P w K mg base 2 "checksum" sp_checksum) (c_fixed : Cal P w K mg base 1 "fixed" sp_fixed) {f : Addr} {cdv : Value} {A : Around} {outer : List Env} {s : Shared} {H : Hp} {E : XK} (hr : Room 2 (A.deeper (envOfC "frame" (defScope s_frame) s.heap.objs.size f cdv))) :
    PSs (cxOf (L2.CX P w) P w K mg base N_frame "frame" (defScope s_frame) f cdv A outer s H E) (defBody s_frame) (t_frame K (wDef E) sp_checksum sp_fixed) :=
  (pss_one (ps_ret (pe_op op_addG (pe_op op_addG (pe_cal c_fixed hr (by decide) rfl (fun σ => passAt (takes_of rfl rfl rfl rfl) σ) (pa_cons (pe_callB call_lenG rfl T.n_len boot_len (pa_cons (pv 0) pa_nil)) (pa_cons (pe_globI T.c_FRAME_HEAD) pa_nil))) (pe_callTy call_tupG rfl T.n_tuple PyProof.Rows.boot_tuple (pa_cons (pv 0) pa_nil))) (pe_cal c_checksum hr (by decide) rfl (fun σ => passAt (takes_of rfl rfl rfl rfl) σ) (pa_cons (pv 0) pa_nil)))))

/-! read_frames: level 3 -/
abbrev N_read_frames : List Str := ["data", "found", "place", "many", "end", "payload"]
def t_read_frames (K : PySem.W.Frag) (W : WX) (sp_checksum : Sp) (sp_number_from : Sp) : TS :=
  (tSeq (tPar 1 2 (tCons (tLst tNil) (tCons (tC (.int 0)) tNil)))
  (tSeq (tWhile (tTest (tOp rLeG (tOp (rAddG K) (tVar 2) (tC (.int 4))) (tCB (rLenC K) (tCons (tVar 0) tNil)))) (tSeq (tAsg (tCallS sp_number_from (WE W) (tCons (tSl (rSlG K) (tVar 0) (tPart (tVar 2)) (tPart (tOp (rAddG K) (tVar 2) (tC (.int 4))))) tNil)) (gName 3))
  (tSeq (tAsg (tOp (rAddG K) (tOp (rAddG K) (tOp (rAddG K) (tVar 2) (tC (.int 4))) (tVar 3)) (tC (.int 4))) (gName 4))
  (tSeq (tIfS (tTest (tOp rGtG (tVar 4) (tCB (rLenC K) (tCons (tVar 0) tNil)))) tBreak tNext)
  (tSeq (tAsg (tCB (rTupO K) (tCons (tSl (rSlG K) (tVar 0) (tPart (tOp (rAddG K) (tVar 2) (tC (.int 4)))) (tPart (tOp (rAddG K) (tOp (rAddG K) (tVar 2) (tC (.int 4))) (tVar 3)))) tNil)) (gName 5))
  (tSeq (tIfS (tTest (tOp (rNeG K) (tCallS sp_checksum (WE W) (tCons (tVar 5) tNil)) (tCB (rTupO K) (tCons (tSl (rSlG K) (tVar 0) (tPart (tOp rSubG (tVar 4) (tC (.int 4)))) (tPart (tVar 4))) tNil)))) tBreak tNext)
  (tSeq (tDrop (tBM K "list" rAppend (tVar 1) (tCons (tVar 5) tNil)))
  (tAsg (tVar 4) (gName 2)))))))))
  (tRet (tVar 1))))
abbrev s_read_frames : Stmt := (top 19)
theorem sc_read_frames : FnScope N_read_frames ["data"] (defScope s_read_frames) := ⟨rfl, rfl, rfl, by decide +kernel, rfl, by decide +kernel, by decide +kernel⟩
theorem der_read_frames {sp_checksum : Sp} {sp_number_from : Sp} (T : Txt K mg) (c_checksum : Cal P w K mg base 2 "checksum" sp_checksum) (c_number_from : Cal P w K mg base 1 "number_from" sp_number_from) {f : Addr} {cdv : Value} {A : Around} {outer : List Env} {s : Shared} {H : Hp} {E : XK} (hr : Room 2 (A.deeper (envOfC "read_frames" (defScope s_read_frames) s.heap.objs.size f cdv))) :
    PSs (cxOf (L2.CX P w) P w K mg base N_read_frames "read_frames" (defScope s_read_frames) f cdv A outer s H E) (defBody s_read_frames) (t_read_frames K (wDef E) sp_checksum sp_number_from) :=
  (pss_cons (ps_par (i := 1) (j := 2) rfl sc_read_frames.nd rfl rfl (by decide) rfl rfl (pa_cons (pe_lst pa_nil) (pa_cons pe_int pa_nil)) rfl)
  (pss_cons (ps_while (passes_of rfl) (pt_cmpR op_leG (pe_op op_addG (pv 2) (pe_globI T.c_FRAME_HEAD)) (pe_callB call_lenG rfl T.n_len boot_len (pa_cons (pv 0) pa_nil)) (nomark _)) (pss_cons (ps_set (i := 3) sc_read_frames.nd rfl (by first | exact Or.inl rfl | exact Or.inr rfl) (pe_cal c_number_from hr (by decide) rfl (fun σ => passAt (takes_of rfl rfl rfl rfl) σ) (pa_cons (pe_slice sl_G (pv 0) (po_some (pv 2)) (po_some (pe_op op_addG (pv 2) (pe_globI T.c_FRAME_HEAD)))) pa_nil)))
  (pss_cons (ps_set (i := 4) sc_read_frames.nd rfl (by first | exact Or.inl rfl | exact Or.inr rfl) (pe_op op_addG (pe_op op_addG (pe_op op_addG (pv 2) (pe_globI T.c_FRAME_HEAD)) (pv 3)) (pe_globI T.c_FRAME_TAIL)))
  (pss_cons (ps_if (pt_cmpR op_gtG (pv 4) (pe_callB call_lenG rfl T.n_len boot_len (pa_cons (pv 0) pa_nil)) (nomark _)) (pss_one ps_break) pss_nil)
  (pss_cons (ps_set (i := 5) sc_read_frames.nd rfl (by first | exact Or.inl rfl | exact Or.inr rfl) (pe_callTy call_tupG rfl T.n_tuple PyProof.Rows.boot_tuple (pa_cons (pe_slice sl_G (pv 0) (po_some (pe_op op_addG (pv 2) (pe_globI T.c_FRAME_HEAD))) (po_some (pe_op op_addG (pe_op op_addG (pv 2) (pe_globI T.c_FRAME_HEAD)) (pv 3)))) pa_nil)))
  (pss_cons (ps_if (pt_cmpR (op_neG hr.units) (pe_cal c_checksum hr (by decide) rfl (fun σ => passAt (takes_of rfl rfl rfl rfl) σ) (pa_cons (pv 5) pa_nil)) (pe_callTy call_tupG rfl T.n_tuple PyProof.Rows.boot_tuple (pa_cons (pe_slice sl_G (pv 0) (po_some (pe_op op_subG (pv 4) (pe_globI T.c_FRAME_TAIL))) (po_some (pv 4))) pa_nil)) (nomark _)) (pss_one ps_break) pss_nil)
  (pss_cons (ps_expr (pe_bm PySem.F.plainAttrs_list PySem.F.slot_list_append PySem.F.type_list_append mt_append (pv 1) (pa_cons (pv 5) pa_nil)))
  (pss_one (ps_set (i := 2) sc_read_frames.nd rfl (by first | exact Or.inl rfl | exact Or.inr rfl) (pv 4))))))))))
  (pss_one (ps_ret (pv 1)))))

/-! _law_bytes: level 3 -/
abbrev N__law_bytes : List Str := ["group", "found", "number", "data"]
def t__law_bytes (K : PySem.W.Frag) (W : WX) (sp__law_frame : Sp) (sp__law_natural : Sp) : TS :=
  (tSeq (tAsg (tTup tNil) (gName 1))
  (tSeq (tFor (iSeq K (tOp (rIx K) (tVar 0) (tC (.int 1)))) (gTup K 2 (gCons (gName 2) (gCons (gName 3) gNil))) (tAsg (tOp (rAddG K) (tVar 1) (tCallS sp__law_frame (WE W) (tCons (tOp (rAddG K) (tOp (rAddG K) (tTup (tCons (tC (.int 1)) tNil)) (tCallS sp__law_natural (WE W) (tCons (tVar 2) tNil))) (tVar 3)) tNil))) (gName 1)))
  (tRet (tOp (rAddG K) (tVar 1) (tCallS sp__law_frame (WE W) (tCons (tOp (rAddG K) (tTup (tCons (tC (.int 2)) tNil)) (tCallS sp__law_natural (WE W) (tCons (tOp (rIx K) (tVar 0) (tC (.int 0))) tNil))) tNil))))))
abbrev s__law_bytes : Stmt := (top 32)
theorem sc__law_bytes : FnScope N__law_bytes ["group"] (defScope s__law_bytes) := ⟨rfl, rfl, rfl, by decide +kernel, rfl, by decide +kernel, by decide +kernel⟩
theorem der__law_bytes {sp__law_frame : Sp} {sp__law_natural : Sp} (T : Txt K mg) (c__law_frame : Cal P w K mg base 2 "_law_frame" sp__law_frame) (c__law_natural : Cal P w K mg base 1 "_law_natural" sp__law_natural) {f : Addr} {cdv : Value} {A : Around} {outer : List Env} {s : Shared} {H : Hp} {E : XK} (hr : Room 2 (A.deeper (envOfC "_law_bytes" (defScope s__law_bytes) s.heap.objs.size f cdv))) :
    PSs (cxOf (L2.CX P w) P w K mg base N__law_bytes "_law_bytes" (defScope s__law_bytes) f cdv A outer s H E) (defBody s__law_bytes) (t__law_bytes K (wDef E) sp__law_frame sp__law_natural) :=
  (pss_cons (ps_set (i := 1) sc__law_bytes.nd rfl (by first | exact Or.inl rfl | exact Or.inr rfl) (pe_tup pa_nil))
  (pss_cons (ps_for (passes_of rfl) rfl (pi_seq (pe_ix ix_seq (pv 0) pe_int (fun _ _ => rfl))) (pg_tup rfl (pgs_cons (pg_name (i := 2) sc__law_bytes.nd rfl (by first | exact Or.inl rfl | exact Or.inr rfl)) (pgs_cons (pg_name (i := 3) sc__law_bytes.nd rfl (by first | exact Or.inl rfl | exact Or.inr rfl)) pgs_nil))) (pss_one (ps_set (i := 1) sc__law_bytes.nd rfl (by first | exact Or.inl rfl | exact Or.inr rfl) (pe_op op_addG (pv 1) (pe_cal c__law_frame hr (by decide) rfl (fun σ => passAt (takes_of rfl rfl rfl rfl) σ) (pa_cons (pe_op op_addG (pe_op op_addG (pe_tup (pa_cons pe_int pa_nil)) (pe_cal c__law_natural hr (by decide) rfl (fun σ => passAt (takes_of rfl rfl rfl rfl) σ) (pa_cons (pv 2) pa_nil))) (pv 3)) pa_nil))))))
  (pss_one (ps_ret (pe_op op_addG (pv 1) (pe_cal c__law_frame hr (by decide) rfl (fun σ => passAt (takes_of rfl rfl rfl rfl) σ) (pa_cons (pe_op op_addG (pe_tup (pa_cons pe_int pa_nil)) (pe_cal c__law_natural hr (by decide) rfl (fun σ => passAt (takes_of rfl rfl rfl rfl) σ) (pa_cons (pe_ix ix_seq (pv 0) pe_int (fun _ _ => rfl)) pa_nil))) pa_nil)))))))

/-! image_record: level 4 -/
abbrev N_image_record : List Str := ["number", "data"]
def t_image_record (K : PySem.W.Frag) (W : WX) (sp_frame : Sp) (sp_natural : Sp) : TS :=
  (tRet (tCallS sp_frame (WE W) (tCons (tOp (rAddG K) (tOp (rAddG K) (tTup (tCons (tC (.int 1)) tNil)) (tCallS sp_natural (WE W) (tCons (tVar 0) tNil))) (tCB (rTupO K) (tCons (tVar 1) tNil))) tNil)))
abbrev s_image_record : Stmt := (top 17)
theorem sc_image_record : FnScope N_image_record ["number", "data"] (defScope s_image_record) := ⟨rfl, rfl, rfl, by decide +kernel, rfl, by decide +kernel, by decide +kernel⟩
theorem der_image_record {sp_frame : Sp} {sp_natural : Sp} (T : Txt K mg) (c_frame : Cal P w K mg base 3 "frame" sp_frame) (c_natural : Cal P w K mg base 1 "natural" sp_natural) {f : Addr} {cdv : Value} {A : Around} {outer : List Env} {s : Shared} {H : Hp} {E : XK} (hr : Room 3 (A.deeper (envOfC "image_record" (defScope s_image_record) s.heap.objs.size f cdv))) :
    PSs (cxOf (L2.CX P w) P w K mg base N_image_record "image_record" (defScope s_image_record) f cdv A outer s H E) (defBody s_image_record) (t_image_record K (wDef E) sp_frame sp_natural) :=
  (pss_one (ps_ret (pe_cal c_frame hr (by decide) rfl (fun σ => passAt (takes_of rfl rfl rfl rfl) σ) (pa_cons (pe_op op_addG (pe_op op_addG (pe_tup (pa_cons (pe_globI T.c_IMAGE) pa_nil)) (pe_cal c_natural hr (by decide) rfl (fun σ => passAt (takes_of rfl rfl rfl rfl) σ) (pa_cons (pv 0) pa_nil))) (pe_callTy call_tupG rfl T.n_tuple PyProof.Rows.boot_tuple (pa_cons (pv 1) pa_nil))) pa_nil))))

/-! end_record: level 4 -/
abbrev N_end_record : List Str := ["stamp"]
def t_end_record (K : PySem.W.Frag) (W : WX) (sp_frame : Sp) (sp_natural : Sp) : TS :=
  (tRet (tCallS sp_frame (WE W) (tCons (tOp (rAddG K) (tTup (tCons (tC (.int 2)) tNil)) (tCallS sp_natural (WE W) (tCons (tVar 0) tNil))) tNil)))
abbrev s_end_record : Stmt := (top 18)
theorem sc_end_record : FnScope N_end_record ["stamp"] (defScope s_end_record) := ⟨rfl, rfl, rfl, by decide +kernel, rfl, by decide +kernel, by decide +kernel⟩
theorem der_end_record {sp_frame : Sp} {sp_natural : Sp} (T : Txt K mg) (c_frame : Cal P w K mg base 3 "frame" sp_frame) (c_natural : Cal P w K mg base 1 "natural" sp_natural) {f : Addr} {cdv : Value} {A : Around} {outer : List Env} {s : Shared} {H : Hp} {E : XK} (hr : Room 3 (A.deeper (envOfC "end_record" (defScope s_end_record) s.heap.objs.size f cdv))) :
    PSs (cxOf (L2.CX P w) P w K mg base N_end_record "end_record" (defScope s_end_record) f cdv A outer s H E) (defBody s_end_record) (t_end_record K (wDef E) sp_frame sp_natural) :=
  (pss_one (ps_ret (pe_cal c_frame hr (by decide) rfl (fun σ => passAt (takes_of rfl rfl rfl rfl) σ) (pa_cons (pe_op op_addG (pe_tup (pa_cons (pe_globI T.c_END) pa_nil)) (pe_cal c_natural hr (by decide) rfl (fun σ => passAt (takes_of rfl rfl rfl rfl) σ) (pa_cons (pv 0) pa_nil))) pa_nil))))

/-! read_groups: level 4 -/
abbrev N_read_groups : List Str := ["data", "found", "images", "payload", "record"]
def t_read_groups (K : PySem.W.Frag) (W : WX) (sp_read_frames : Sp) (sp_read_record : Sp) : TS :=
  (tSeq (tPar 1 2 (tCons (tLst tNil) (tCons (tLst tNil) tNil)))
  (tSeq (tFor (iSeq K (tCallS sp_read_frames (WE W) (tCons (tVar 0) tNil))) (gName 3) (tSeq (tTry K (.ref (He.ga K "LogFault")) tBreak W (fun W2 => (tAsg (tCallS sp_read_record (WE W2) (tCons (tVar 3) tNil)) (gName 4))))
  (tIfS (tTest (tOp (rEqG K) (tOp (rIx K) (tVar 4) (tC (.int 0))) (tC (.str "image")))) (tDrop (tBM K "list" rAppend (tVar 2) (tCons (tSl (rSlG K) (tVar 4) (tPart (tC (.int 1))) tNoPart) tNil))) (tSeq (tDrop (tBM K "list" rAppend (tVar 1) (tCons (tTup (tCons (tOp (rIx K) (tVar 4) (tC (.int 1))) (tCons (tCB (rTupO K) (tCons (tVar 2) tNil)) tNil))) tNil)))
  (tAsg (tLst tNil) (gName 2))))))
  (tRet (tVar 1))))
abbrev s_read_groups : Stmt := (top 21)
theorem sc_read_groups : FnScope N_read_groups ["data"] (defScope s_read_groups) := ⟨rfl, rfl, rfl, by decide +kernel, rfl, by decide +kernel, by decide +kernel⟩
theorem der_read_groups {sp_read_frames : Sp} {sp_read_record : Sp} (T : Txt K mg) (c_read_frames : Cal P w K mg base 3 "read_frames" sp_read_frames) (c_read_record : Cal P w K mg base 2 "read_record" sp_read_record) {f : Addr} {cdv : Value} {A : Around} {outer : List Env} {s : Shared} {H : Hp} {E : XK} (hr : Room 3 (A.deeper (envOfC "read_groups" (defScope s_read_groups) s.heap.objs.size f cdv))) :
    PSs (cxOf (L2.CX P w) P w K mg base N_read_groups "read_groups" (defScope s_read_groups) f cdv A outer s H E) (defBody s_read_groups) (t_read_groups K (wDef E) sp_read_frames sp_read_record) :=
  (pss_cons (ps_par (i := 1) (j := 2) rfl sc_read_groups.nd rfl rfl (by decide) rfl rfl (pa_cons (pe_lst pa_nil) (pa_cons (pe_lst pa_nil) pa_nil)) rfl)
  (pss_cons (ps_for (passes_of rfl) rfl (pi_seq (pe_cal c_read_frames hr (by decide) rfl (fun σ => passAt (takes_of rfl rfl rfl rfl) σ) (pa_cons (pv 0) pa_nil))) (pg_name (i := 3) sc_read_groups.nd rfl (by first | exact Or.inl rfl | exact Or.inr rfl)) (pss_cons (ps_tryT rfl rfl (by rfl) T.g_LogFault (takes_of rfl rfl rfl rfl) (fun W2 pn xe tkW2 poW2 => (pss_one (ps_set (i := 4) sc_read_groups.nd rfl (by first | exact Or.inl rfl | exact Or.inr rfl) (pe_cal c_read_record hr (by decide) rfl (fun σ => passAt tkW2 σ) (pa_cons (pv 3) pa_nil))))) (fun a oe pn => (pss_one ps_break)))
  (pss_one (ps_if (pt_cmpR (op_eqG hr.units) (pe_ix ix_seq (pv 4) pe_int (fun _ _ => rfl)) pe_str (nomark _)) (pss_one (ps_expr (pe_bm PySem.F.plainAttrs_list PySem.F.slot_list_append PySem.F.type_list_append mt_append (pv 2) (pa_cons (pe_slice sl_G (pv 4) (po_some pe_int) po_none) pa_nil)))) (pss_cons (ps_expr (pe_bm PySem.F.plainAttrs_list PySem.F.slot_list_append PySem.F.type_list_append mt_append (pv 1) (pa_cons (pe_tup (pa_cons (pe_ix ix_seq (pv 4) pe_int (fun _ _ => rfl)) (pa_cons (pe_callTy call_tupG rfl T.n_tuple PyProof.Rows.boot_tuple (pa_cons (pv 2) pa_nil)) pa_nil))) pa_nil)))
  (pss_one (ps_set (i := 2) sc_read_groups.nd rfl (by first | exact Or.inl rfl | exact Or.inr rfl) (pe_lst pa_nil))))))))
  (pss_one (ps_ret (pv 1)))))

/-! group_bytes: level 5 -/
abbrev N_group_bytes : List Str := ["stamp", "images", "found", "number", "data"]
def t_group_bytes (K : PySem.W.Frag) (W : WX) (sp_end_record : Sp) (sp_image_record : Sp) : TS :=
  (tSeq (tAsg (tTup tNil) (gName 2))
  (tSeq (tFor (iSeq K (tVar 1)) (gTup K 2 (gCons (gName 3) (gCons (gName 4) gNil))) (tAug 2 (tCallS sp_image_record (WE W) (tCons (tVar 3) (tCons (tVar 4) tNil))) (rIAddA K)))
  (tRet (tOp (rAddG K) (tVar 2) (tCallS sp_end_record (WE W) (tCons (tVar 0) tNil))))))
abbrev s_group_bytes : Stmt := (top 22)
theorem sc_group_bytes : FnScope N_group_bytes ["stamp", "images"] (defScope s_group_bytes) := ⟨rfl, rfl, rfl, by decide +kernel, rfl, by decide +kernel, by decide +kernel⟩
theorem der_group_bytes {sp_end_record : Sp} {sp_image_record : Sp} (T : Txt K mg) (c_end_record : Cal P w K mg base 4 "end_record" sp_end_record) (c_image_record : Cal P w K mg base 4 "image_record" sp_image_record) {f : Addr} {cdv : Value} {A : Around} {outer : List Env} {s : Shared} {H : Hp} {E : XK} (hr : Room 4 (A.deeper (envOfC "group_bytes" (defScope s_group_bytes) s.heap.objs.size f cdv))) :
    PSs (cxOf (L2.CX P w) P w K mg base N_group_bytes "group_bytes" (defScope s_group_bytes) f cdv A outer s H E) (defBody s_group_bytes) (t_group_bytes K (wDef E) sp_end_record sp_image_record) :=
  (pss_cons (ps_set (i := 2) sc_group_bytes.nd rfl (by first | exact Or.inl rfl | exact Or.inr rfl) (pe_tup pa_nil))
  (pss_cons (ps_for (passes_of rfl) rfl (pi_seq (pv 1)) (pg_tup rfl (pgs_cons (pg_name (i := 3) sc_group_bytes.nd rfl (by first | exact Or.inl rfl | exact Or.inr rfl)) (pgs_cons (pg_name (i := 4) sc_group_bytes.nd rfl (by first | exact Or.inl rfl | exact Or.inr rfl)) pgs_nil))) (pss_one (ps_aug (i := 2) sc_group_bytes.nd rfl (by first | exact Or.inl rfl | exact Or.inr rfl) (pe_cal c_image_record hr (by decide) rfl (fun σ => passAt (takes_of rfl rfl rfl rfl) σ) (pa_cons (pv 3) (pa_cons (pv 4) pa_nil))) ip_addA)))
  (pss_one (ps_ret (pe_op op_addG (pv 2) (pe_cal c_end_record hr (by decide) rfl (fun σ => passAt (takes_of rfl rfl rfl rfl) σ) (pa_cons (pv 0) pa_nil)))))))

/-! law: level 8 -/
abbrev N_law : List Str := ["script", "dice", "groups", "log", "ends", "group", "cut", "place", "bent", "drawn", "number", "bad", "k", "one"]
def t_law (K : PySem.W.Frag) (W : WX) (TT : Tb) (sp__law_bytes : Sp) (sp__law_frame : Sp) (sp__law_group : Sp) (sp__law_natural : Sp) (sp__law_read : Sp) (sp__law_roll : Sp) (sp__law_rounds : Sp) (sp_end_record : Sp) (sp_frame : Sp) (sp_group_bytes : Sp) (sp_image_record : Sp) (sp_read_frames : Sp) (sp_read_groups : Sp) (sp_read_record : Sp) : TS :=
  (tSeq (tFor (iSeq K (tCallS sp__law_rounds (WE W) (tCons (tVar 0) (tCons (tC (.int 1)) tNil)))) (gName 1) (tSeq (tAsg (tLc (iRng1 (tCons (tCallS sp__law_roll (WE W) (tCons (tVar 1) (tCons (tC (.int 6)) tNil))) tNil)) (gName 12) tYes (tCallS sp__law_group E00 (tCons (tVar 1) tNil)) [12]) (gName 2))
  (tSeq (tAsg (tTup (tCons (tTup tNil) (tCons (tLst (tCons (tC (.int 0)) tNil)) tNil))) (gTup K 2 (gCons (gName 3) (gCons (gName 4) gNil))))
  (tSeq (tFor (iSeq K (tVar 2)) (gName 5) (tSeq (tIfS (tTest (tOp (rNeG K) (tCallS sp_group_bytes (WE W) (tCons (tOp (rIx K) (tVar 5) (tC (.int 0))) (tCons (tOp (rIx K) (tVar 5) (tC (.int 1))) tNil))) (tCallS sp__law_bytes (WE W) (tCons (tVar 5) tNil)))) (tRet (tC (.bl false))) tNext)
  (tSeq (tAsg (tOp (rAddG K) (tVar 3) (tCallS sp__law_bytes (WE W) (tCons (tVar 5) tNil))) (gName 3))
  (tDrop (tBM K "list" rAppend (tVar 4) (tCons (tCB (rLenC K) (tCons (tVar 3) tNil)) tNil))))))
  (tSeq (tIfS (tOr (tTest (tOp (rNeG K) (tCallS sp_read_groups (WE W) (tCons (tVar 3) tNil)) (tVar 2))) (tTest (tOp (rNeG K) (tCB (rLenC K) (tCons (tCallS sp_read_frames (WE W) (tCons (tVar 3) tNil)) tNil)) (tCB (rSum K) (tCons (tLc (iSeq K (tVar 2)) (gName 5) tYes (tOp (rAddG K) (tC (.int 1)) (tCB (rLenC K) (tCons (tOp (rIx K) (tVar 5) (tC (.int 1))) tNil))) [5]) tNil))))) (tRet (tC (.bl false))) tNext)
  (tSeq (tAsg (tCallS sp__law_roll (WE W) (tCons (tVar 1) (tCons (tOp (rAddG K) (tCB (rLenC K) (tCons (tVar 3) tNil)) (tC (.int 1))) tNil))) (gName 6))
  (tSeq (tIfS (tTest (tOp (rNeG K) (tCallS sp_read_groups (WE W) (tCons (tSl (rSlG K) (tVar 3) tNoPart (tPart (tVar 6))) tNil)) (tLc (iEnum K (tCons (tVar 2) tNil)) (gTup K 2 (gCons (gName 12) (gCons (gName 5) gNil))) (tTest (tOp rLeG (tOp (rIx K) (tVar 4) (tOp (rAddG K) (tVar 12) (tC (.int 1)))) (tVar 6))) (tVar 5) [12, 5]))) (tRet (tC (.bl false))) tNext)
  (tSeq (tIfS (tTest (tOp (rNeG K) (tVar 3) (tTup tNil))) (tSeq (tAsg (tCallS sp__law_roll (WE W) (tCons (tVar 1) (tCons (tCB (rLenC K) (tCons (tVar 3) tNil)) tNil))) (gName 7))
  (tSeq (tAsg (tOp (rAddG K) (tOp (rAddG K) (tSl (rSlG K) (tVar 3) tNoPart (tPart (tVar 7))) (tTup (tCons (tOp rModG (tOp (rAddG K) (tOp (rAddG K) (tOp (rIx K) (tVar 3) (tVar 7)) (tC (.int 1))) (tCallS sp__law_roll (WE W) (tCons (tVar 1) (tCons (tC (.int 255)) tNil)))) (tC (.int 256))) tNil))) (tSl (rSlG K) (tVar 3) (tPart (tOp (rAddG K) (tVar 7) (tC (.int 1)))) tNoPart)) (gName 8))
  (tIfS (tTest (tOp (rNeG K) (tCB (rLstO K) (tCons (tCallS sp_read_groups (WE W) (tCons (tVar 8) tNil)) tNil)) (tCallS sp__law_read (WE W) (tCons (tVar 8) tNil)))) (tRet (tC (.bl false))) tNext))) tNext)
  (tSeq (tAsg (tCB (rTupO K) (tCons (tLc (iRng1 (tCons (tCallS sp__law_roll (WE W) (tCons (tVar 1) (tCons (tC (.int 12)) tNil))) tNil)) (gName 12) tYes (tCallS sp__law_roll E00 (tCons (tVar 1) (tCons (tC (.int 256)) tNil))) [12]) tNil)) (gName 9))
  (tSeq (tIfS (tOr (tTest (tOp (rNeG K) (tCB (rLstO K) (tCons (tCallS sp_read_groups (WE W) (tCons (tOp (rAddG K) (tVar 3) (tVar 9)) tNil)) tNil)) (tCallS sp__law_read (WE W) (tCons (tOp (rAddG K) (tVar 3) (tVar 9)) tNil)))) (tTest (tOp (rNeG K) (tCallS sp__law_read (WE W) (tCons (tVar 3) tNil)) (tCB (rLstO K) (tCons (tVar 2) tNil))))) (tRet (tC (.bl false))) tNext)
  (tSeq (tAsg (tCallS sp__law_roll (WE W) (tCons (tVar 1) (tCons (tOp rPowG (tC (.int 10)) (tC (.int 9))) tNil))) (gName 10))
  (tSeq (tIfS (tTest (tOp (rNeG K) (tCallS sp_read_record (WE W) (tCons (tOp (rAddG K) (tOp (rAddG K) (tOp (rAddG K) (tSl (rSlG K) (tCallS sp__law_natural (WE W) (tCons (tC (.int 0)) tNil)) tNoPart (tPart (tC (.int 0)))) (tTup (tCons (tC (.int 1)) tNil))) (tCallS sp__law_natural (WE W) (tCons (tVar 10) tNil))) (tVar 9)) tNil)) (tTup (tCons (tC (.str "image")) (tCons (tVar 10) (tCons (tVar 9) tNil)))))) (tRet (tC (.bl false))) tNext)
  (tIfS (tOr (tTest (tOp (rNeG K) (tCallS sp_end_record (WE W) (tCons (tVar 10) tNil)) (tCallS sp__law_frame (WE W) (tCons (tOp (rAddG K) (tTup (tCons (tC (.int 2)) tNil)) (tCallS sp__law_natural (WE W) (tCons (tVar 10) tNil))) tNil)))) (tOr (tTest (tOp (rNeG K) (tCallS sp_image_record (WE W) (tCons (tVar 10) (tCons (tVar 9) tNil))) (tCallS sp__law_frame (WE W) (tCons (tOp (rAddG K) (tOp (rAddG K) (tTup (tCons (tC (.int 1)) tNil)) (tCallS sp__law_natural (WE W) (tCons (tVar 10) tNil))) (tVar 9)) tNil)))) (tTest (tOp (rNeG K) (tCallS sp_frame (WE W) (tCons (tVar 9) tNil)) (tCallS sp__law_frame (WE W) (tCons (tVar 9) tNil)))))) (tRet (tC (.bl false))) tNext)))))))))))))
  (tSeq (tAsg (tLst (tCons (tTup tNil) (tCons (tTup (tCons (tC (.int 3)) (tCons (tC (.int 1)) tNil))) (tCons (tTup (tCons (tC (.int 2)) tNil)) (tCons (tTup (tCons (tC (.int 2)) (tCons (tC (.int 5)) (tCons (tC (.int 5)) tNil)))) (tCons (tTup (tCons (tC (.int 1)) (tCons (tC (.int 200)) tNil))) (tCons (tTup (tCons (tC (.int 2)) (tCons (tC (.int 128)) (tCons (tC (.int 0)) tNil)))) tNil))))))) (gName 11))
  (tRet (tAndV (tOp (rEqG K) (tLc (iSeq K (tVar 11)) (gName 13) (tTest (tOp (rNeG K) (LamX.tLam TT (LamX.TTold K (He.ga K "LogFault") "LogFault") (fun EL => (tCallS sp_read_record (WE (wDef EL)) (tCons (tVar 13) tNil)))) (tC (.str "LogFault")))) (tVar 13) [13]) (tLst tNil)) (tOp (rEqG K) (tCallS sp_read_record (WE W) (tCons (tTup (tCons (tC (.int 2)) (tCons (tC (.int 7)) tNil))) tNil)) (tTup (tCons (tC (.str "end")) (tCons (tC (.int 7)) tNil))))))))
abbrev s_law : Stmt := (top 36)
theorem sc_law : FnScope N_law ["script"] (defScope s_law) := ⟨rfl, rfl, rfl, by decide +kernel, rfl, by decide +kernel, by decide +kernel⟩
abbrev lamQ_law : Str := (envOfC "law" (defScope s_law) 0 0 .none).qual ++ "<lambda>"
theorem der_law {sp__law_bytes : Sp} {sp__law_frame : Sp} {sp__law_group : Sp} {sp__law_natural : Sp} {sp__law_read : Sp} {sp__law_roll : Sp} {sp__law_rounds : Sp} {sp_end_record : Sp} {sp_frame : Sp} {sp_group_bytes : Sp} {sp_image_record : Sp} {sp_read_frames : Sp} {sp_read_groups : Sp} {sp_read_record : Sp} (T : Txt K mg) (c__law_bytes : Cal P w K mg base 3 "_law_bytes" sp__law_bytes) (c__law_frame : Cal P w K mg base 2 "_law_frame" sp__law_frame) (c__law_group : Cal P w K mg base 2 "_law_group" sp__law_group) (c__law_natural : Cal P w K mg base 1 "_law_natural" sp__law_natural) (c__law_read : Cal P w K mg base 2 "_law_read" sp__law_read) (c__law_roll : Cal P w K mg base 1 "_law_roll" sp__law_roll) (c__law_rounds : Cal P w K mg base 2 "_law_rounds" sp__law_rounds) (c_end_record : Cal P w K mg base 4 "end_record" sp_end_record) (c_frame : Cal P w K mg base 3 "frame" sp_frame) (c_group_bytes : Cal P w K mg base 5 "group_bytes" sp_group_bytes) (c_image_record : Cal P w K mg base 4 "image_record" sp_image_record) (c_read_frames : Cal P w K mg base 3 "read_frames" sp_read_frames) (c_read_groups : Cal P w K mg base 4 "read_groups" sp_read_groups) (c_read_record : Cal P w K mg base 2 "read_record" sp_read_record) {f : Addr} {cdv : Value} {A : Around} {outer : List Env} {s : Shared} {H : Hp} {E : XK} {TT : Tb} {cc Pt : Addr} (TB : LamX.TabB base mg cc Pt) (hmT : (Pt, lamQ_law) ∈ TT) (hu : ∀ p ∈ TT, p.1 = Pt → p.2 = lamQ_law) {g_told : Addr} {fd_told : FuncData} (F_told : FunD K "_law_told" "_law_told" (defArgs s__law_told) (defBody s__law_told) (defScope s__law_told) [] [] g_told fd_told) (M_told : mg "_law_told" = some (.ref g_told)) (B_told : Binds K fd_told ["what"] []) (HC : cdv = .ref cc) (hr : Room 7 (A.deeper (envOfC "law" (defScope s_law) s.heap.objs.size f cdv))) :
    PSs (cxOf (L2.CX P w) P w K mg base N_law "law" (defScope s_law) f cdv A outer s H E) (defBody s_law) (t_law K (wDef E) TT sp__law_bytes sp__law_frame sp__law_group sp__law_natural sp__law_read sp__law_roll sp__law_rounds sp_end_record sp_frame sp_group_bytes sp_image_record sp_read_frames sp_read_groups sp_read_record) :=
  (pss_cons (ps_for (passes_of rfl) rfl (pi_seq (pe_cal c__law_rounds hr (by decide) rfl (fun σ => passAt (takes_of rfl rfl rfl rfl) σ) (pa_cons (pv 0) (pa_cons pe_int pa_nil)))) (pg_name (i := 1) sc_law.nd rfl (by first | exact Or.inl rfl | exact Or.inr rfl)) (pss_cons (ps_setLc (i := 2) (own := [("k", 12)]) (g := (gName 12)) rfl sc_law.nd rfl rfl (sw_true rfl rfl rfl (by decide +kernel)) (pi_range1 rfl T.n_range (pa_cons (pe_cal c__law_roll hr (by decide) rfl (fun σ => passAt (takes_of rfl rfl rfl rfl) σ) (pa_cons (pv 1) (pa_cons pe_int pa_nil))) pa_nil)) (blkOk_by (N := N_law) (sc := defScope s_law) (own := [("k", 12)]) (by decide +kernel)) (fun _ _ _ _ _ => (pg_name (i := 12) sc_law.nd rfl (by first | exact Or.inl rfl | exact Or.inr rfl))) (fun _ _ _ _ _ => pts_nil) (fun _ _ _ _ _ => (pe_cal c__law_group hr (by decide) rfl (fun σ => passE) (pa_cons (pv 1) pa_nil))))
  (pss_cons (ps_asg (pe_tup (pa_cons (pe_tup pa_nil) (pa_cons (pe_lst (pa_cons pe_int pa_nil)) pa_nil))) (pg_tup rfl (pgs_cons (pg_name (i := 3) sc_law.nd rfl (by first | exact Or.inl rfl | exact Or.inr rfl)) (pgs_cons (pg_name (i := 4) sc_law.nd rfl (by first | exact Or.inl rfl | exact Or.inr rfl)) pgs_nil))))
  (pss_cons (ps_for (passes_of rfl) rfl (pi_seq (pv 2)) (pg_name (i := 5) sc_law.nd rfl (by first | exact Or.inl rfl | exact Or.inr rfl)) (pss_cons (ps_if (pt_cmpR (op_neG hr.units) (pe_cal c_group_bytes hr (by decide) rfl (fun σ => passAt (takes_of rfl rfl rfl rfl) σ) (pa_cons (pe_ix ix_seq (pv 5) pe_int (fun _ _ => rfl)) (pa_cons (pe_ix ix_seq (pv 5) pe_int (fun _ _ => rfl)) pa_nil))) (pe_cal c__law_bytes hr (by decide) rfl (fun σ => passAt (takes_of rfl rfl rfl rfl) σ) (pa_cons (pv 5) pa_nil)) (nomark _)) (pss_one (ps_ret pe_bl)) pss_nil)
  (pss_cons (ps_set (i := 3) sc_law.nd rfl (by first | exact Or.inl rfl | exact Or.inr rfl) (pe_op op_addG (pv 3) (pe_cal c__law_bytes hr (by decide) rfl (fun σ => passAt (takes_of rfl rfl rfl rfl) σ) (pa_cons (pv 5) pa_nil))))
  (pss_one (ps_expr (pe_bm PySem.F.plainAttrs_list PySem.F.slot_list_append PySem.F.type_list_append mt_append (pv 4) (pa_cons (pe_callB call_lenG rfl T.n_len boot_len (pa_cons (pv 3) pa_nil)) pa_nil)))))))
  (pss_cons (ps_if (PW.pt (pw_or (pt_cmpR (op_neG hr.units) (pe_cal c_read_groups hr (by decide) rfl (fun σ => passAt (takes_of rfl rfl rfl rfl) σ) (pa_cons (pv 3) pa_nil)) (pv 2) (nomark _)) (pw_or1 (pt_cmpR (op_neG hr.units) (pe_callB call_lenG rfl T.n_len boot_len (pa_cons (pe_cal c_read_frames hr (by decide) rfl (fun σ => passAt (takes_of rfl rfl rfl rfl) σ) (pa_cons (pv 3) pa_nil)) pa_nil)) (pe_callB (cr_sum rfl) rfl T.n_sum PyProof.Rows.boot_sum (pa_cons (pe_lc (own := [("group", 5)]) (g := (gName 5)) rfl sc_law.nd (pi_seq (pv 2)) (blkOk_by (N := N_law) (sc := defScope s_law) (own := [("group", 5)]) (by decide +kernel)) (fun _ _ _ _ _ => (pg_name (i := 5) sc_law.nd rfl (by first | exact Or.inl rfl | exact Or.inr rfl))) (fun _ _ _ _ _ => pts_nil) (fun _ _ _ _ _ => (pe_op op_addG pe_int (pe_callB call_lenG rfl T.n_len boot_len (pa_cons (pe_ix ix_seq (pv 5) pe_int (fun _ _ => rfl)) pa_nil))))) pa_nil)) (nomark _))))) (pss_one (ps_ret pe_bl)) pss_nil)
  (pss_cons (ps_set (i := 6) sc_law.nd rfl (by first | exact Or.inl rfl | exact Or.inr rfl) (pe_cal c__law_roll hr (by decide) rfl (fun σ => passAt (takes_of rfl rfl rfl rfl) σ) (pa_cons (pv 1) (pa_cons (pe_op op_addG (pe_callB call_lenG rfl T.n_len boot_len (pa_cons (pv 3) pa_nil)) pe_int) pa_nil))))
  (pss_cons (ps_if (pt_cmpR (op_neG hr.units) (pe_cal c_read_groups hr (by decide) rfl (fun σ => passAt (takes_of rfl rfl rfl rfl) σ) (pa_cons (pe_slice sl_G (pv 3) po_none (po_some (pv 6))) pa_nil)) (pe_lc (own := [("k", 12), ("group", 5)]) (g := (gTup K 2 (gCons (gName 12) (gCons (gName 5) gNil)))) rfl sc_law.nd (pi_enum rfl T.n_enumerate (pa_cons (pv 2) pa_nil)) (blkOk_by (N := N_law) (sc := defScope s_law) (own := [("k", 12), ("group", 5)]) (by decide +kernel)) (fun _ _ _ _ _ => (pg_tup rfl (pgs_cons (pg_name (i := 12) sc_law.nd rfl (by first | exact Or.inl rfl | exact Or.inr rfl)) (pgs_cons (pg_name (i := 5) sc_law.nd rfl (by first | exact Or.inl rfl | exact Or.inr rfl)) pgs_nil)))) (fun _ _ _ _ _ => (pts_one (pt_cmpR op_leG (pe_ix ix_seq (pv 4) (pe_op op_addG (pv 12) pe_int) (fun _ _ => rfl)) (pv 6) (nomark _)))) (fun _ _ _ _ _ => (pv 5))) (nomark _)) (pss_one (ps_ret pe_bl)) pss_nil)
  (pss_cons (ps_if (pt_cmpR (op_neG hr.units) (pv 3) (pe_tup pa_nil) (nomark _)) (pss_cons (ps_set (i := 7) sc_law.nd rfl (by first | exact Or.inl rfl | exact Or.inr rfl) (pe_cal c__law_roll hr (by decide) rfl (fun σ => passAt (takes_of rfl rfl rfl rfl) σ) (pa_cons (pv 1) (pa_cons (pe_callB call_lenG rfl T.n_len boot_len (pa_cons (pv 3) pa_nil)) pa_nil))))
  (pss_cons (ps_set (i := 8) sc_law.nd rfl (by first | exact Or.inl rfl | exact Or.inr rfl) (pe_op op_addG (pe_op op_addG (pe_slice sl_G (pv 3) po_none (po_some (pv 7))) (pe_tup (pa_cons (pe_op op_modG (pe_op op_addG (pe_op op_addG (pe_ix ix_seq (pv 3) (pv 7) (fun _ _ => rfl)) pe_int) (pe_cal c__law_roll hr (by decide) rfl (fun σ => passAt (takes_of rfl rfl rfl rfl) σ) (pa_cons (pv 1) (pa_cons pe_int pa_nil)))) pe_int) pa_nil))) (pe_slice sl_G (pv 3) (po_some (pe_op op_addG (pv 7) pe_int)) po_none)))
  (pss_one (ps_if (pt_cmpR (op_neG hr.units) (pe_callTy call_lstG rfl T.n_list PyProof.Rows.boot_list (pa_cons (pe_cal c_read_groups hr (by decide) rfl (fun σ => passAt (takes_of rfl rfl rfl rfl) σ) (pa_cons (pv 8) pa_nil)) pa_nil)) (pe_cal c__law_read hr (by decide) rfl (fun σ => passAt (takes_of rfl rfl rfl rfl) σ) (pa_cons (pv 8) pa_nil)) (nomark _)) (pss_one (ps_ret pe_bl)) pss_nil)))) pss_nil)
  (pss_cons (ps_set (i := 9) sc_law.nd rfl (by first | exact Or.inl rfl | exact Or.inr rfl) (pe_callTy call_tupG rfl T.n_tuple PyProof.Rows.boot_tuple (pa_cons (pe_lc (own := [("k", 12)]) (g := (gName 12)) rfl sc_law.nd (pi_range1 rfl T.n_range (pa_cons (pe_cal c__law_roll hr (by decide) rfl (fun σ => passAt (takes_of rfl rfl rfl rfl) σ) (pa_cons (pv 1) (pa_cons pe_int pa_nil))) pa_nil)) (blkOk_by (N := N_law) (sc := defScope s_law) (own := [("k", 12)]) (by decide +kernel)) (fun _ _ _ _ _ => (pg_name (i := 12) sc_law.nd rfl (by first | exact Or.inl rfl | exact Or.inr rfl))) (fun _ _ _ _ _ => pts_nil) (fun _ _ _ _ _ => (pe_cal c__law_roll hr (by decide) rfl (fun σ => passE) (pa_cons (pv 1) (pa_cons pe_int pa_nil))))) pa_nil)))
  (pss_cons (ps_if (PW.pt (pw_or (pt_cmpR (op_neG hr.units) (pe_callTy call_lstG rfl T.n_list PyProof.Rows.boot_list (pa_cons (pe_cal c_read_groups hr (by decide) rfl (fun σ => passAt (takes_of rfl rfl rfl rfl) σ) (pa_cons (pe_op op_addG (pv 3) (pv 9)) pa_nil)) pa_nil)) (pe_cal c__law_read hr (by decide) rfl (fun σ => passAt (takes_of rfl rfl rfl rfl) σ) (pa_cons (pe_op op_addG (pv 3) (pv 9)) pa_nil)) (nomark _)) (pw_or1 (pt_cmpR (op_neG hr.units) (pe_cal c__law_read hr (by decide) rfl (fun σ => passAt (takes_of rfl rfl rfl rfl) σ) (pa_cons (pv 3) pa_nil)) (pe_callTy call_lstG rfl T.n_list PyProof.Rows.boot_list (pa_cons (pv 2) pa_nil)) (nomark _))))) (pss_one (ps_ret pe_bl)) pss_nil)
  (pss_cons (ps_set (i := 10) sc_law.nd rfl (by first | exact Or.inl rfl | exact Or.inr rfl) (pe_cal c__law_roll hr (by decide) rfl (fun σ => passAt (takes_of rfl rfl rfl rfl) σ) (pa_cons (pv 1) (pa_cons (pe_op op_powG pe_int pe_int) pa_nil))))
  (pss_cons (ps_if (pt_cmpR (op_neG hr.units) (pe_cal c_read_record hr (by decide) rfl (fun σ => passAt (takes_of rfl rfl rfl rfl) σ) (pa_cons (pe_op op_addG (pe_op op_addG (pe_op op_addG (pe_slice sl_G (pe_cal c__law_natural hr (by decide) rfl (fun σ => passAt (takes_of rfl rfl rfl rfl) σ) (pa_cons pe_int pa_nil)) po_none (po_some pe_int)) (pe_tup (pa_cons pe_int pa_nil))) (pe_cal c__law_natural hr (by decide) rfl (fun σ => passAt (takes_of rfl rfl rfl rfl) σ) (pa_cons (pv 10) pa_nil))) (pv 9)) pa_nil)) (pe_tup (pa_cons pe_str (pa_cons (pv 10) (pa_cons (pv 9) pa_nil)))) (nomark _)) (pss_one (ps_ret pe_bl)) pss_nil)
  (pss_one (ps_if (PW.pt (pw_or (pt_cmpR (op_neG hr.units) (pe_cal c_end_record hr (by decide) rfl (fun σ => passAt (takes_of rfl rfl rfl rfl) σ) (pa_cons (pv 10) pa_nil)) (pe_cal c__law_frame hr (by decide) rfl (fun σ => passAt (takes_of rfl rfl rfl rfl) σ) (pa_cons (pe_op op_addG (pe_tup (pa_cons pe_int pa_nil)) (pe_cal c__law_natural hr (by decide) rfl (fun σ => passAt (takes_of rfl rfl rfl rfl) σ) (pa_cons (pv 10) pa_nil))) pa_nil)) (nomark _)) (pw_or (pt_cmpR (op_neG hr.units) (pe_cal c_image_record hr (by decide) rfl (fun σ => passAt (takes_of rfl rfl rfl rfl) σ) (pa_cons (pv 10) (pa_cons (pv 9) pa_nil))) (pe_cal c__law_frame hr (by decide) rfl (fun σ => passAt (takes_of rfl rfl rfl rfl) σ) (pa_cons (pe_op op_addG (pe_op op_addG (pe_tup (pa_cons pe_int pa_nil)) (pe_cal c__law_natural hr (by decide) rfl (fun σ => passAt (takes_of rfl rfl rfl rfl) σ) (pa_cons (pv 10) pa_nil))) (pv 9)) pa_nil)) (nomark _)) (pw_or1 (pt_cmpR (op_neG hr.units) (pe_cal c_frame hr (by decide) rfl (fun σ => passAt (takes_of rfl rfl rfl rfl) σ) (pa_cons (pv 9) pa_nil)) (pe_cal c__law_frame hr (by decide) rfl (fun σ => passAt (takes_of rfl rfl rfl rfl) σ) (pa_cons (pv 9) pa_nil)) (nomark _)))))) (pss_one (ps_ret pe_bl)) pss_nil))))))))))))))
  (pss_cons (ps_set (i := 11) sc_law.nd rfl (by first | exact Or.inl rfl | exact Or.inr rfl) (pe_lst (pa_cons (pe_tup pa_nil) (pa_cons (pe_tup (pa_cons pe_int (pa_cons pe_int pa_nil))) (pa_cons (pe_tup (pa_cons pe_int pa_nil)) (pa_cons (pe_tup (pa_cons pe_int (pa_cons pe_int (pa_cons pe_int pa_nil)))) (pa_cons (pe_tup (pa_cons pe_int (pa_cons pe_int pa_nil))) (pa_cons (pe_tup (pa_cons pe_int (pa_cons pe_int (pa_cons pe_int pa_nil)))) pa_nil))))))))
  (pss_one (ps_ret (pe_and (pe_cmpR (op_eqG hr.units) (pe_lc (own := [("one", 13)]) (g := (gName 13)) rfl sc_law.nd (pi_seq (pv 11)) (blkOk_by (N := N_law) (sc := defScope s_law) (own := [("one", 13)]) (by decide +kernel)) (fun _ _ _ _ _ => (pg_name (i := 13) sc_law.nd rfl (by first | exact Or.inl rfl | exact Or.inr rfl))) (fun _ _ _ _ _ => (pts_one (pt_cmpR (op_neG hr.units) (pe_told (k := 5) F_told M_told B_told sc__law_told (.inl rfl) rfl T.g_LogFault TB HC hmT hu hr rfl (LamX.lamS_by (by kernel_rfl)) rfl (fun _ _ _ _ _ => rfl) (fun A outer s H EL f c' hr => (pe_cal c_read_record hr (by decide) rfl (fun σ => passAt (takes_of rfl rfl rfl rfl) σ) (pa_cons (pv 13) pa_nil)))) pe_str (nomark _)))) (fun _ _ _ _ _ => (pv 13))) (pe_lst pa_nil) (nomark _)) (pe_one (pe_cmpR (op_eqG hr.units) (pe_cal c_read_record hr (by decide) rfl (fun σ => passAt (takes_of rfl rfl rfl rfl) σ) (pa_cons (pe_tup (pa_cons pe_int (pa_cons pe_int pa_nil))) pa_nil)) (pe_tup (pa_cons pe_str (pa_cons pe_int pa_nil))) (nomark _))))))))

def b_law (K : PySem.W.Frag) (W : WX) (TT : Tb) (sp__law_bytes : Sp) (sp__law_frame : Sp) (sp__law_group : Sp) (sp__law_natural : Sp) (sp__law_read : Sp) (sp__law_roll : Sp) (sp__law_rounds : Sp) (sp_end_record : Sp) (sp_frame : Sp) (sp_group_bytes : Sp) (sp_image_record : Sp) (sp_read_frames : Sp) (sp_read_groups : Sp) (sp_read_record : Sp) : TS :=
  (tSeq (tAsg (tLc (iRng1 (tCons (tCallS sp__law_roll (WE W) (tCons (tVar 1) (tCons (tC (.int 6)) tNil))) tNil)) (gName 12) tYes (tCallS sp__law_group E00 (tCons (tVar 1) tNil)) [12]) (gName 2))
  (tSeq (tAsg (tTup (tCons (tTup tNil) (tCons (tLst (tCons (tC (.int 0)) tNil)) tNil))) (gTup K 2 (gCons (gName 3) (gCons (gName 4) gNil))))
  (tSeq (tFor (iSeq K (tVar 2)) (gName 5) (tSeq (tIfS (tTest (tOp (rNeG K) (tCallS sp_group_bytes (WE W) (tCons (tOp (rIx K) (tVar 5) (tC (.int 0))) (tCons (tOp (rIx K) (tVar 5) (tC (.int 1))) tNil))) (tCallS sp__law_bytes (WE W) (tCons (tVar 5) tNil)))) (tRet (tC (.bl false))) tNext)
  (tSeq (tAsg (tOp (rAddG K) (tVar 3) (tCallS sp__law_bytes (WE W) (tCons (tVar 5) tNil))) (gName 3))
  (tDrop (tBM K "list" rAppend (tVar 4) (tCons (tCB (rLenC K) (tCons (tVar 3) tNil)) tNil))))))
  (tSeq (tIfS (tOr (tTest (tOp (rNeG K) (tCallS sp_read_groups (WE W) (tCons (tVar 3) tNil)) (tVar 2))) (tTest (tOp (rNeG K) (tCB (rLenC K) (tCons (tCallS sp_read_frames (WE W) (tCons (tVar 3) tNil)) tNil)) (tCB (rSum K) (tCons (tLc (iSeq K (tVar 2)) (gName 5) tYes (tOp (rAddG K) (tC (.int 1)) (tCB (rLenC K) (tCons (tOp (rIx K) (tVar 5) (tC (.int 1))) tNil))) [5]) tNil))))) (tRet (tC (.bl false))) tNext)
  (tSeq (tAsg (tCallS sp__law_roll (WE W) (tCons (tVar 1) (tCons (tOp (rAddG K) (tCB (rLenC K) (tCons (tVar 3) tNil)) (tC (.int 1))) tNil))) (gName 6))
  (tSeq (tIfS (tTest (tOp (rNeG K) (tCallS sp_read_groups (WE W) (tCons (tSl (rSlG K) (tVar 3) tNoPart (tPart (tVar 6))) tNil)) (tLc (iEnum K (tCons (tVar 2) tNil)) (gTup K 2 (gCons (gName 12) (gCons (gName 5) gNil))) (tTest (tOp rLeG (tOp (rIx K) (tVar 4) (tOp (rAddG K) (tVar 12) (tC (.int 1)))) (tVar 6))) (tVar 5) [12, 5]))) (tRet (tC (.bl false))) tNext)
  (tSeq (tIfS (tTest (tOp (rNeG K) (tVar 3) (tTup tNil))) (tSeq (tAsg (tCallS sp__law_roll (WE W) (tCons (tVar 1) (tCons (tCB (rLenC K) (tCons (tVar 3) tNil)) tNil))) (gName 7))
  (tSeq (tAsg (tOp (rAddG K) (tOp (rAddG K) (tSl (rSlG K) (tVar 3) tNoPart (tPart (tVar 7))) (tTup (tCons (tOp rModG (tOp (rAddG K) (tOp (rAddG K) (tOp (rIx K) (tVar 3) (tVar 7)) (tC (.int 1))) (tCallS sp__law_roll (WE W) (tCons (tVar 1) (tCons (tC (.int 255)) tNil)))) (tC (.int 256))) tNil))) (tSl (rSlG K) (tVar 3) (tPart (tOp (rAddG K) (tVar 7) (tC (.int 1)))) tNoPart)) (gName 8))
  (tIfS (tTest (tOp (rNeG K) (tCB (rLstO K) (tCons (tCallS sp_read_groups (WE W) (tCons (tVar 8) tNil)) tNil)) (tCallS sp__law_read (WE W) (tCons (tVar 8) tNil)))) (tRet (tC (.bl false))) tNext))) tNext)
  (tSeq (tAsg (tCB (rTupO K) (tCons (tLc (iRng1 (tCons (tCallS sp__law_roll (WE W) (tCons (tVar 1) (tCons (tC (.int 12)) tNil))) tNil)) (gName 12) tYes (tCallS sp__law_roll E00 (tCons (tVar 1) (tCons (tC (.int 256)) tNil))) [12]) tNil)) (gName 9))
  (tSeq (tIfS (tOr (tTest (tOp (rNeG K) (tCB (rLstO K) (tCons (tCallS sp_read_groups (WE W) (tCons (tOp (rAddG K) (tVar 3) (tVar 9)) tNil)) tNil)) (tCallS sp__law_read (WE W) (tCons (tOp (rAddG K) (tVar 3) (tVar 9)) tNil)))) (tTest (tOp (rNeG K) (tCallS sp__law_read (WE W) (tCons (tVar 3) tNil)) (tCB (rLstO K) (tCons (tVar 2) tNil))))) (tRet (tC (.bl false))) tNext)
  (tSeq (tAsg (tCallS sp__law_roll (WE W) (tCons (tVar 1) (tCons (tOp rPowG (tC (.int 10)) (tC (.int 9))) tNil))) (gName 10))
  (tSeq (tIfS (tTest (tOp (rNeG K) (tCallS sp_read_record (WE W) (tCons (tOp (rAddG K) (tOp (rAddG K) (tOp (rAddG K) (tSl (rSlG K) (tCallS sp__law_natural (WE W) (tCons (tC (.int 0)) tNil)) tNoPart (tPart (tC (.int 0)))) (tTup (tCons (tC (.int 1)) tNil))) (tCallS sp__law_natural (WE W) (tCons (tVar 10) tNil))) (tVar 9)) tNil)) (tTup (tCons (tC (.str "image")) (tCons (tVar 10) (tCons (tVar 9) tNil)))))) (tRet (tC (.bl false))) tNext)
  (tIfS (tOr (tTest (tOp (rNeG K) (tCallS sp_end_record (WE W) (tCons (tVar 10) tNil)) (tCallS sp__law_frame (WE W) (tCons (tOp (rAddG K) (tTup (tCons (tC (.int 2)) tNil)) (tCallS sp__law_natural (WE W) (tCons (tVar 10) tNil))) tNil)))) (tOr (tTest (tOp (rNeG K) (tCallS sp_image_record (WE W) (tCons (tVar 10) (tCons (tVar 9) tNil))) (tCallS sp__law_frame (WE W) (tCons (tOp (rAddG K) (tOp (rAddG K) (tTup (tCons (tC (.int 1)) tNil)) (tCallS sp__law_natural (WE W) (tCons (tVar 10) tNil))) (tVar 9)) tNil)))) (tTest (tOp (rNeG K) (tCallS sp_frame (WE W) (tCons (tVar 9) tNil)) (tCallS sp__law_frame (WE W) (tCons (tVar 9) tNil)))))) (tRet (tC (.bl false))) tNext))))))))))))
def f_law (K : PySem.W.Frag) (W : WX) (TT : Tb) (sp__law_bytes : Sp) (sp__law_frame : Sp) (sp__law_group : Sp) (sp__law_natural : Sp) (sp__law_read : Sp) (sp__law_roll : Sp) (sp__law_rounds : Sp) (sp_end_record : Sp) (sp_frame : Sp) (sp_group_bytes : Sp) (sp_image_record : Sp) (sp_read_frames : Sp) (sp_read_groups : Sp) (sp_read_record : Sp) : TE :=
  (tAndV (tOp (rEqG K) (tLc (iSeq K (tVar 11)) (gName 13) (tTest (tOp (rNeG K) (LamX.tLam TT (LamX.TTold K (He.ga K "LogFault") "LogFault") (fun EL => (tCallS sp_read_record (WE (wDef EL)) (tCons (tVar 13) tNil)))) (tC (.str "LogFault")))) (tVar 13) [13]) (tLst tNil)) (tOp (rEqG K) (tCallS sp_read_record (WE W) (tCons (tTup (tCons (tC (.int 2)) (tCons (tC (.int 7)) tNil))) tNil)) (tTup (tCons (tC (.str "end")) (tCons (tC (.int 7)) tNil)))))

end
end K10


/-! What the defs of k10 compute, over data. -/
namespace K10
open PySem PySem.Spec PyProof.Rows L2 Ts
section
variable {K : PySem.W.Frag} {W : WX}
section
variable {E : L2.St → XK} {Δ : En} {X : Addr → Prop}
theorem pw3 : Ev K E (tOp rPowG (tC (.int 256)) (tC (.int 3))) Δ (· = .int 16777216) X := ev_is (ev1_op ev_int ev_int (od_pow ⟨by decide, by decide, by decide⟩)) rfl
theorem pw2 : Ev K E (tOp rPowG (tC (.int 256)) (tC (.int 2))) Δ (· = .int 65536) X := ev_is (ev1_op ev_int ev_int (od_pow ⟨by decide, by decide, by decide⟩)) rfl
end
theorem fixed4 (n : Int) : fixedI n 4 = [n / 256 / 256 / 256 % 256, n / 256 / 256 % 256, n / 256 % 256, n % 256] := rfl
theorem by4 (n : Int) : n / 16777216 = n / 256 / 256 / 256 ∧ n / 65536 = n / 256 / 256 := by omega
/-! ### _law_sum, _law_sums -/
theorem lsum_xs (bs : List Int) : Xs K W (t__law_sum K W) (argsE N__law_sum [bD bs]) (fnR (.ret (bD (csumI bs)))) := by
  refine xs_seq (xs1_asgT (ev1_tup (ea1_cons ev_int (ea1_cons ev_int ea_nil))) tg2 ?_)
  refine then_nx (sums_loopI (n := 2) rfl (by decide) fun z => ?_)
  refine xs_seq (xs1_asg (d := .int ((cs2 bs).2 * 65536 + (cs2 bs).1)) (ev1_op (ev1_op (ev_var rfl) ev_int (od_mul (.inr ⟨by decide, by decide⟩))) (ev_var rfl) od_add) ?_)
  refine then_nx ?_
  have v4 : ∀ {Δ : En}, Δ[4]? = some (Sl.dat (.int ((cs2 bs).2 * 65536 + (cs2 bs).1))) → Ev K (WE W) (tVar 4) Δ (· = .int ((cs2 bs).2 * 65536 + (cs2 bs).1)) fun _ => False := fun h => ev_var h
  refine xs1_ret (ev1_tup (ea1_cons (ev1_op (ev1_op (v4 rfl) pw3 (od_div (cdivw (by decide) (by decide)))) ev_int (od_mod (by decide))) (ea1_cons (ev1_op (ev1_op (v4 rfl) pw2 (od_div (cdivw (by decide) (by decide)))) ev_int (od_mod (by decide)))
    (ea1_cons (ev1_op (ev1_op (v4 rfl) ev_int (od_div (cdivw (by decide) (by decide)))) ev_int (od_mod (by decide))) (ea1_cons (ev1_op (v4 rfl) ev_int (od_mod (by decide))) ea_nil))))) ?_
  show _ = _
  unfold csumI
  rw [fixed4, (by4 _).1, (by4 _).2]
  rfl
theorem cs_range : ∀ (k : Nat) (bs : List Int), bs.length = k → (0 ≤ (cs2 bs).1 ∧ (cs2 bs).1 < 65521) ∧ (0 ≤ (cs2 bs).2 ∧ (cs2 bs).2 < 65521)
  | 0, bs, h => by
    have : bs = [] := List.eq_nil_of_length_eq_zero h
    subst this
    decide
  | k + 1, bs, h => by
    have hd : bs ≠ [] := fun z => by rw [z] at h; cases h
    obtain ⟨a, x, rfl⟩ : ∃ b' x, bs = b' ++ [x] := ⟨bs.dropLast, bs.getLast hd, (List.dropLast_concat_getLast hd).symm⟩
    have e : cs2 (a ++ [x]) = csP (cs2 a) x := by
      unfold cs2
      rw [List.foldl_append]
      rfl
    rw [e]
    refine ⟨⟨Int.emod_nonneg _ (by decide), Int.emod_lt_of_pos _ (by decide)⟩, Int.emod_nonneg _ (by decide), Int.emod_lt_of_pos _ (by decide)⟩
theorem lsums_xs (bs : List Int) : Xs K W (t__law_sums K W) (argsE N__law_sums [bD bs]) (fnR (.ret (bD (csumI bs)))) := by
  refine xs_seq (xs1_asgT (ev1_tup (ea1_cons ev_int (ea1_cons ev_int ea_nil))) tg2 ?_)
  refine then_nx (sums_loop (n := 1) rfl (by decide) fun z => ?_)
  refine xs1_ret (ev1_tup (ea1_cons (ev1_op (ev_var (d := .int (cs2 bs).2) rfl) ev_int (od_div (cdivw (by decide) (by decide)))) (ea1_cons (ev1_op (ev_var (d := .int (cs2 bs).2) rfl) ev_int (od_mod (by decide)))
    (ea1_cons (ev1_op (ev_var (d := .int (cs2 bs).1) rfl) ev_int (od_div (cdivw (by decide) (by decide)))) (ea1_cons (ev1_op (ev_var (d := .int (cs2 bs).1) rfl) ev_int (od_mod (by decide))) ea_nil))))) ?_
  show _ = _
  obtain ⟨h1, h2⟩ := cs_range bs.length bs rfl
  have e : csumI bs = [(cs2 bs).2 / 256, (cs2 bs).2 % 256, (cs2 bs).1 / 256, (cs2 bs).1 % 256] := by
    unfold csumI
    rw [fixed4]
    generalize (cs2 bs).1 = a at *
    generalize (cs2 bs).2 = b at *
    congr 1
    · omega
    · congr 1
      · omega
      · congr 1
        · omega
        · congr 1
          omega
  rw [e]
  rfl
/-! ### _law_natural, _law_number -/
theorem lnat_xs (n : Nat) (h : n < 2 ^ 64) : Xs K W (t__law_natural K W) (argsE N__law_natural [.int n]) (fnR (.ret (bD (natI n)))) := by
  have fin : ∀ (m : Nat) (acc : List Int) (z : Sl), m < 128 → natI n = acc ++ natI m → Xs K W (tRet (tOp (rAddG K) (tVar 1) (tTup (tCons (tVar 0) tNil)))) [.dat (.int m), .dat (bD acc), z] (fnR (.ret (bD (natI n)))) := fun m acc z hm e => by
    have hl : acc.length ≤ 10 := by
      have := natI_le h
      rw [e, List.length_append] at this
      omega
    refine xs1_ret (ev1_op (ev_var (d := bD acc) rfl) (ev1_tup (ea1_cons (ev_var (d := .int m) rfl) ea_nil)) (od_catT (szl (by rw [List.length_map]; simp; omega)))) ?_
    show _ = _
    rw [e, natI, if_pos hm]
    unfold bD
    rw [List.map_append]
    rfl
  refine xs_seq (xs1_asg (ev1_tup ea_nil) ?_)
  refine then_nx ?_
  refine xs_seq (xs1_for (items := rngD 0 1 20) (ew_rng1 (ev_int.imp fun d e => ⟨20, e, by decide, by decide, rfl⟩)) (fun i Δ' => ∃ (m : Nat) (acc : List Int) (z : Sl), Δ' = [.dat (.int m), .dat (bD acc), z] ∧ natI n = acc ++ natI m ∧ m * 128 ^ i ≤ n) ⟨n, [], _, rfl, rfl, by simp⟩ ?_ ?_)
  · rintro i d Δ' hd ⟨m, acc, z, rfl, e, hm⟩
    refine ⟨[2], _, tg_name, ?_⟩
    refine xs_seq (xs1_if (et1_val (ev1_op (ev_var (d := .int m) rfl) ev_int od_lt)) (fun hb => xs_brk ?_) fun hb => xs_next ?_)
    · have hc : m < 128 := by have := of_decide_eq_true hb; omega
      exact then_nx (fin m acc _ hc e)
    · have hc : ¬ m < 128 := by have := of_decide_eq_false hb; omega
      have hl : acc.length ≤ 10 := by
        have := natI_le h
        rw [e, List.length_append] at this
        omega
      refine then_nx ?_
      refine xs_seq (xs1_asg (ev1_op (ev_var (d := bD acc) rfl) (ev1_tup (ea1_cons (ev1_op ev_int (ev1_op (ev_var (d := .int m) rfl) ev_int (od_mod (by decide))) od_add) ea_nil)) (od_catT (szl (by rw [List.length_map]; simp; omega)))) ?_)
      refine then_nx ?_
      refine xs1_asg (ev1_op (ev_var (d := .int m) rfl) ev_int (od_div (cdivw (by decide) (by decide)))) ?_
      refine ⟨m / 128, acc ++ [128 + (m : Int) % 128], .dat d, ?_, ?_, ?_⟩
      · unfold bD
        rw [List.map_append, Int.natCast_ediv]
        rfl
      · rw [e, natI, if_neg hc]
        simp
      · rw [Nat.pow_succ]
        have h1 : m / 128 * 128 ≤ m := Nat.div_mul_le_self _ _
        calc m / 128 * (128 ^ i * 128) = (m / 128 * 128) * 128 ^ i := by rw [Nat.mul_comm (128 ^ i) 128, Nat.mul_assoc]
          _ ≤ m * 128 ^ i := Nat.mul_le_mul_right _ h1
          _ ≤ n := hm
  · rintro Δ' ⟨m, acc, z, rfl, e, hm⟩
    rw [rngD_len] at hm
    have hm0 : m < 128 := by
      have : (128 : Nat) ^ 20 = 1393796574908163946345982392040522594123776 := by decide
      rw [this] at hm
      omega
    exact then_nx (fin m acc z hm0 e)
def lnR (i : List Int × Nat) : Res := match nf (i.1.drop i.2) 0 1 i.2 with
  | some p => .ret (nfD p)
  | none => .ret .non
abbrev spLn (K : PySem.W.Frag) : Sp := spI K nfA (fun i => i.2 ≤ i.1.length) lnR
theorem lnum_xs (i : List Int × Nat) (h : i.2 ≤ i.1.length) : Xs K W (t__law_number K W) (argsE N__law_number (nfA i)) (fnR (lnR i)) := by
  obtain ⟨bs, p0⟩ := i
  replace h : p0 ≤ bs.length := h
  refine xs_seq (xs1_asgT (ev1_tup (ea1_cons ev_int (ea1_cons ev_int ea_nil))) tg2 ?_)
  refine then_nx ?_
  have hlen : ∀ {Δ : En}, Δ[0]? = some (Sl.dat (bD bs)) → Ev K (WE W) (tCB (rLenC K) (tCons (tVar 0) tNil)) Δ (· = .int (bs.length : Nat)) fun _ => False := fun h => ev_is (ev1_cb (ea1_cons (ev_var h) ea_nil) cd_lenT) (by rw [List.length_map])
  refine xs_seq (xs_while (fun m Δ' => ∃ (f w : Int) (p : Nat), Δ' = [.dat (bD bs), .dat (.int p), .dat (.int f), .dat (.int w)] ∧ nf (bs.drop p0) 0 1 p0 = nf (bs.drop p) f w p ∧ p ≤ bs.length ∧ m = bs.length - p) _ ⟨0, 1, p0, rfl, rfl, h, rfl⟩ ?_)
  rintro m Δ' ⟨f, w, p, rfl, hn, hp, rfl⟩
  refine ⟨(· = decide ((p : Int) < bs.length)), fun _ => False, et1_val (ev1_op (ev_var (d := .int p) rfl) (hlen rfl) od_lt), fun _ z => z.elim, fun hb => ?_, fun hb => ?_⟩
  · have hb' : p < bs.length := by have := of_decide_eq_true hb.symm; omega
    obtain ⟨x, hx⟩ := get_ex hb'
    rw [drop_at hx] at hn
    refine xs_seq (xs1_par3 (a := .int (f + x % 128 * w)) (b := .int (w * 128)) (c := .int (p + 1)) (ea1_cons (ev1_op (ev_var (d := .int f) rfl) (ev1_op (ev1_op (ev1_op (ev_var (d := bD bs) rfl) (ev_var (d := .int p) rfl) (od_ixT (atI_nat (map_get hx)))) ev_int (od_mod (by decide))) (ev_var (d := .int w) rfl) (od_mul (.inl (small128 x)))) od_add)
      (ea1_cons (ev1_op (ev_var (d := .int w) rfl) ev_int (od_mul (.inr ⟨by decide, by decide⟩))) (ea1_cons (ev1_op (ev_var (d := .int p) rfl) ev_int od_add) ea_nil))) ?_)
    refine then_nx ?_
    have ix : ∀ {Δ : En}, Δ[0]? = some (Sl.dat (bD bs)) → Δ[1]? = some (Sl.dat (.int ((p : Int) + 1))) → Ev K (WE W) (tOp (rIx K) (tVar 0) (tOp rSubG (tVar 1) (tC (.int 1)))) Δ (· = .int x) fun _ => False := fun h1 h2 => ev1_op (ev_var h1) (ev1_op (ev_var h2) ev_int od_sub) (by
      have : (p : Int) + 1 - 1 = (p : Int) := by omega
      rw [this]
      exact od_ixT (atI_nat (map_get hx)))
    refine xs1_if (et1_val (ev1_op (ix rfl rfl) ev_int od_lt)) (fun hc => ?_) fun hc => xs_next ?_
    · have hx1 : x < 128 := of_decide_eq_true hc
      have hn2 : nf (bs.drop p0) 0 1 p0 = if x = 0 ∧ 128 < w * 128 then none else some (f + x % 128 * w, p + 1) := by rw [hn, nf, if_pos hx1]
      refine xs1_ret (ev1_if (b := (decide (x = 0) && decide (128 < w * 128))) (x := .non) (y := nfD (f + x % 128 * w, p + 1)) (et1_and (et1_val (ev1_op (ix rfl rfl) ev_int od_eqI)) fun _ => et1_val (ev1_op (ev_var (d := .int (w * 128)) rfl) ev_int od_gt)) (fun _ => ev_non) fun _ => ev1_tup (ea1_cons (ev_var (d := .int (f + x % 128 * w)) rfl) (ea1_cons (ev_var (d := .int ((p : Int) + 1)) rfl) ea_nil))) ?_
      show lnR _ = _
      unfold lnR
      show (match nf (bs.drop p0) 0 1 p0 with | some p => _ | none => _) = _
      rw [hn2]
      by_cases hz : x = 0 ∧ 128 < w * 128
      · rw [if_pos hz, decide_eq_true hz.1, decide_eq_true hz.2]
        rfl
      · rw [if_neg hz]
        have : (decide (x = 0) && decide (128 < w * 128)) = false := by
          cases hq : (decide (x = 0) && decide (128 < w * 128)) with
          | false => rfl
          | true =>
            obtain ⟨b1, b2⟩ := Bool.and_eq_true_iff.mp hq
            exact absurd ⟨of_decide_eq_true b1, of_decide_eq_true b2⟩ hz
        rw [this]
        rfl
    · have hx1 : ¬ x < 128 := of_decide_eq_false hc
      refine ⟨bs.length - (p + 1), by omega, f + x % 128 * w, w * 128, p + 1, rfl, ?_, hb', rfl⟩
      rw [hn, nf, if_neg hx1]
  · have hb' : bs.length ≤ p := by have := of_decide_eq_false hb.symm; omega
    refine then_nx (xs1_ret ev_non ?_)
    show lnR _ = _
    unfold lnR
    show (match nf (bs.drop p0) 0 1 p0 with | some p => _ | none => _) = _
    rw [hn, List.drop_of_length_le hb']
    rfl
/-! ### frames, records written -/
abbrev spFr (K : PySem.W.Frag) : Sp := spI K (fun bs : List Int => [bD bs]) (fun bs => bs.length ≤ 1000) fun bs => .ret (bD (frameI bs))
section
variable {E : L2.St → XK} {Δ : En} {X : Addr → Prop} {te ta tb tc : TE} {bs cs : List Int}
theorem ev_cat (h1 : Ev K E ta Δ (· = bD bs) X) (h2 : Ev K E tb Δ (· = bD cs) X) (hl : bs.length + cs.length ≤ 100000) : Ev K E (tOp (rAddG K) ta tb) Δ (· = bD (bs ++ cs)) X :=
  ev_is (ev1_op h1 h2 (od_catT (szl (by rw [List.length_map, List.length_map]; omega)))) bD_app
theorem ev_lenB (h : Ev K E te Δ (· = bD bs) X) : Ev K E (tCB (rLenC K) (tCons te tNil)) Δ (· = .int (bs.length : Nat)) X := ev_is (ev1_cb (ea1_cons h ea_nil) cd_lenT) (by rw [List.length_map])
theorem ev_tupB (h : Ev K E te Δ (· = bD bs) X) : Ev K E (tCB (rTupO K) (tCons te tNil)) Δ (· = bD bs) X := ev1_cb (ea1_cons h ea_nil) cd_tupT
theorem ev_cs (h : Ev K E te Δ (· = bD bs) X) : Ev K E (tCallS (spCs K) E (tCons te tNil)) Δ (· = bD (csumI bs)) X := ev1_callI bs (ea1_cons h ea_nil) trivial rfl
theorem ev_fr (h : Ev K E te Δ (· = bD bs) X) (hl : bs.length ≤ 1000) : Ev K E (tCallS (spFr K) E (tCons te tNil)) Δ (· = bD (frameI bs)) X := ev1_callI bs (ea1_cons h ea_nil) hl rfl
theorem ev_na {n : Int} (h : Ev K E te Δ (· = .int n) X) (hn : NumOk n) : Ev K E (tCallS (spNa K) E (tCons te tNil)) Δ (· = bD (natI n.toNat)) X := ev1_callI n.toNat (ea1_cons (ev_is h (by rw [Int.toNat_of_nonneg hn.1])) ea_nil) (by have := hn.1; have := hn.2; show n.toNat < 2 ^ 64; omega) rfl
theorem ev_one {n : Int} : Ev K E (tTup (tCons (tC (.int n)) tNil)) Δ (· = bD [n]) X := ev1_tup (ea1_cons ev_int ea_nil)
theorem ev_slB {a b : Nat} (h : Ev K E te Δ (· = bD bs) X) (h1 : Ev K E ta Δ (· = .int a) X) (h2 : Ev K E tb Δ (· = .int b) X) : Ev K E (tSl (rSlG K) te (tPart ta) (tPart tb)) Δ (· = bD ((bs.drop a).take (b - a))) X :=
  ev_is (ev1_sl h (eo1_some h1) (eo1_some h2) sd_tup) (by rw [cutD_nn, List.drop_take, ← List.map_drop, ← List.map_take]; rfl)
theorem ev_slFrom {a : Nat} (h : Ev K E te Δ (· = bD bs) X) (h1 : Ev K E ta Δ (· = .int a) X) : Ev K E (tSl (rSlG K) te (tPart ta) tNoPart) Δ (· = bD (bs.drop a)) X :=
  ev_is (ev1_sl h (eo1_some h1) eo_none sd_tup) (by rw [cutD_from, ← List.map_drop]; rfl)
theorem ev_slTo {b : Nat} (h : Ev K E te Δ (· = bD bs) X) (h2 : Ev K E tb Δ (· = .int b) X) : Ev K E (tSl (rSlG K) te tNoPart (tPart tb)) Δ (· = bD (bs.take b)) X :=
  ev_is (ev1_sl h eo_none (eo1_some h2) sd_tup) (by rw [cutD_to, ← List.map_take]; rfl)
end
theorem frame_xs (bs : List Int) (h : bs.length ≤ 1000) : Xs K W (t_frame K W (spCs K) (spFx K)) (argsE N_frame [bD bs]) (fnR (.ret (bD (frameI bs)))) := by
  refine xs1_ret (d := bD (frameI bs)) (ev_cat (ev_cat (ev1_callI ((bs.length : Int), 4) (ea1_cons (ev_lenB (ev_var (d := bD bs) rfl)) (ea1_cons ev_int ea_nil)) (show (4 : Nat) ≤ 1000 by decide) rfl) (ev_tupB (ev_var (d := bD bs) rfl)) ?_) (ev_cs (ev_var (d := bD bs) rfl)) ?_) rfl
  · rw [fixedI_len]; omega
  · rw [List.length_append, fixedI_len, csum_len]; omega
theorem lframe_xs (bs : List Int) (h : bs.length ≤ 1000) : Xs K W (t__law_frame K W (spCs K)) (argsE N__law_frame [bD bs]) (fnR (.ret (bD (frameI bs)))) := by
  refine xs_seq (xs1_asg (ev_lenB (ev_var (d := bD bs) rfl)) ?_)
  refine then_nx ?_
  have v1 : ∀ {Δ : En}, Δ[1]? = some (Sl.dat (.int (bs.length : Nat))) → Ev K (WE W) (tVar 1) Δ (· = .int (bs.length : Nat)) fun _ => False := fun h => ev_var h
  have e4 : Ev K (WE W) (tTup (tCons (tOp rDivG (tVar 1) (tOp rPowG (tC (.int 256)) (tC (.int 3)))) (tCons (tOp rModG (tOp rDivG (tVar 1) (tOp rPowG (tC (.int 256)) (tC (.int 2)))) (tC (.int 256))) (tCons (tOp rModG (tOp rDivG (tVar 1) (tC (.int 256))) (tC (.int 256))) (tCons (tOp rModG (tVar 1) (tC (.int 256))) tNil)))))
      [.dat (bD bs), .dat (.int (bs.length : Nat))] (· = bD (fixedI bs.length 4)) fun _ => False := by
    refine ev_is (ev1_tup (ea1_cons (ev1_op (v1 rfl) pw3 (od_div (cdivw (by decide) (by decide)))) (ea1_cons (ev1_op (ev1_op (v1 rfl) pw2 (od_div (cdivw (by decide) (by decide)))) ev_int (od_mod (by decide)))
      (ea1_cons (ev1_op (ev1_op (v1 rfl) ev_int (od_div (cdivw (by decide) (by decide)))) ev_int (od_mod (by decide))) (ea1_cons (ev1_op (v1 rfl) ev_int (od_mod (by decide))) ea_nil))))) ?_
    rw [fixed4, (by4 _).1, (by4 _).2]
    have : (bs.length : Int) / 256 / 256 / 256 % 256 = (bs.length : Int) / 256 / 256 / 256 := by omega
    rw [this]
    rfl
  refine xs1_ret (d := bD (frameI bs)) (ev_cat (ev_cat e4 (ev_var (d := bD bs) rfl) ?_) (ev_cs (ev_var (d := bD bs) rfl)) ?_) rfl
  · rw [fixedI_len]; omega
  · rw [List.length_append, fixedI_len, csum_len]; omega
def imD (x : Im) : D := .tup [.int x.1, bD x.2]
def grD (g : Grp) : D := .tup [.int g.1, .tup (g.2.map imD)]
abbrev spIr (K : PySem.W.Frag) : Sp := spI K (fun x : Im => [.int x.1, bD x.2]) ImOk fun x => .ret (bD (frameI (ipay x)))
abbrev spEr (K : PySem.W.Frag) : Sp := spI K (fun s : Int => [.int s]) NumOk fun s => .ret (bD (frameI (epay s)))
theorem image_xs (x : Im) (h : ImOk x) : Xs K W (t_image_record K W (spFr K) (spNa K)) (argsE N_image_record [.int x.1, bD x.2]) (fnR (.ret (bD (frameI (ipay x))))) := by
  have h1 := nat_len h.1
  have h2 := h.2.1
  have h3 := ipay_len h
  refine xs1_ret (d := bD (frameI (ipay x))) (ev_fr (bs := ipay x) (ev_is (ev_cat (ev_cat ev_one (ev_na (ev_var (d := .int x.1) rfl) h.1) (by simp; omega)) (ev_tupB (ev_var (d := bD x.2) rfl)) (by simp; omega)) (by simp [ipay])) (by omega)) rfl
theorem end_xs (s : Int) (h : NumOk s) : Xs K W (t_end_record K W (spFr K) (spNa K)) (argsE N_end_record [.int s]) (fnR (.ret (bD (frameI (epay s))))) := by
  have h1 := nat_len h
  have h3 := epay_len h
  refine xs1_ret (d := bD (frameI (epay s))) (ev_fr (bs := epay s) (ev_is (ev_cat ev_one (ev_na (ev_var (d := .int s) rfl) h) (by simp; omega)) (by simp [epay])) (by omega)) rfl
theorem ims_take {ims : List Im} {i : Nat} {x : Im} (h : ims[i]? = some x) : imsI (ims.take (i + 1)) = imsI (ims.take i) ++ frameI (ipay x) := by
  rw [take_at h]
  simp [imsI]
abbrev spGb (K : PySem.W.Frag) : Sp := spI K (fun g : Grp => [.int g.1, .tup (g.2.map imD)]) GrpOk fun g => .ret (bD (groupI g))
abbrev spLb (K : PySem.W.Frag) : Sp := spI K (fun g : Grp => [grD g]) GrpOk fun g => .ret (bD (groupI g))
theorem ims_bound {g : Grp} (h : GrpOk g) (i : Nat) : (imsI (g.2.take i)).length ≤ 400 := by
  have h1 := ims_len (g.2.take i) fun x hx => h.2.2 x (List.mem_of_mem_take hx)
  have h2 : (g.2.take i).length ≤ 3 := by rw [List.length_take]; have := h.2.1; omega
  omega
theorem gb_xs (g : Grp) (h : GrpOk g) : Xs K W (t_group_bytes K W (spEr K) (spIr K)) (argsE N_group_bytes [.int g.1, .tup (g.2.map imD)]) (fnR (.ret (bD (groupI g)))) := by
  refine xs_seq (xs1_asg (d := bD []) (ev1_tup ea_nil) ?_)
  refine then_nx ?_
  refine xs_seq (xs1_for (items := g.2.map imD) (ew_inr (ew_inl (ew_tup ((ev_var (d := .tup (g.2.map imD)) rfl).imp fun d e => ⟨_, e, rfl⟩)))) (fun i Δ' => ∃ y z, Δ' = [.dat (.int g.1), .dat (.tup (g.2.map imD)), .dat (bD (imsI (g.2.take i))), y, z]) ⟨_, _, rfl⟩ ?_ ?_)
  · rintro i d Δ' hd ⟨y, z, rfl⟩
    obtain ⟨x, hx, rfl⟩ := of_map_get hd
    have hxo := h.2.2 x (List.mem_of_getElem? hx)
    have hb := ims_bound h i
    have hp := ipay_len hxo
    refine ⟨[3, 4], _, tg2, ?_⟩
    refine xs1_aug (x := bD (imsI (g.2.take i))) (z := bD (imsI (g.2.take (i + 1)))) rfl (ev1_callI (i := x) (ea1_cons (ev_var (d := .int x.1) rfl) (ea1_cons (ev_var (d := bD x.2) rfl) ea_nil)) hxo rfl) ?_ ⟨_, _, rfl⟩
    refine (icatA (szl (by rw [List.length_map, List.length_map, frame_len]; omega))).imp fun d e => ?_
    rw [e, bD_app, ims_take hx]
  · rintro Δ' ⟨y, z, rfl⟩
    refine then_nx ?_
    have hb := ims_bound h g.2.length
    rw [List.take_length] at hb
    have hp := epay_len h.1
    rw [List.length_map, List.take_length]
    exact xs1_ret (d := bD (groupI g)) (ev_cat (ev_var (d := bD (imsI g.2)) rfl) (ev1_callI (i := g.1) (ea1_cons (ev_var (d := .int g.1) rfl) ea_nil) h.1 rfl) (by rw [frame_len]; omega)) rfl
theorem lb_xs (g : Grp) (h : GrpOk g) : Xs K W (t__law_bytes K W (spFr K) (spNa K)) (argsE N__law_bytes [grD g]) (fnR (.ret (bD (groupI g)))) := by
  refine xs_seq (xs1_asg (d := bD []) (ev1_tup ea_nil) ?_)
  refine then_nx ?_
  refine xs_seq (xs1_for (items := g.2.map imD) (ew_inr (ew_inl (ew_tup ((ev1_op (ev_var (d := grD g) rfl) ev_int (od_ixT rfl)).imp fun d e => ⟨_, e, rfl⟩)))) (fun i Δ' => ∃ y z, Δ' = [.dat (grD g), .dat (bD (imsI (g.2.take i))), y, z]) ⟨_, _, rfl⟩ ?_ ?_)
  · rintro i d Δ' hd ⟨y, z, rfl⟩
    obtain ⟨x, hx, rfl⟩ := of_map_get hd
    have hxo := h.2.2 x (List.mem_of_getElem? hx)
    have hb := ims_bound h i
    have hp := ipay_len hxo
    have h1 := nat_len hxo.1
    have h2 := hxo.2.1
    refine ⟨[2, 3], _, tg2, ?_⟩
    refine xs1_asg (d := bD (imsI (g.2.take (i + 1)))) (ev_is (ev_cat (ev_var (d := bD (imsI (g.2.take i))) rfl) (ev_fr (bs := ipay x) (ev_is (ev_cat (ev_cat ev_one (ev_na (ev_var (d := .int x.1) rfl) hxo.1) (by simp; omega)) (ev_var (d := bD x.2) rfl) (by simp; omega)) (by simp [ipay])) (by omega)) (by rw [frame_len]; omega)) (by rw [ims_take hx])) ⟨_, _, rfl⟩
  · rintro Δ' ⟨y, z, rfl⟩
    refine then_nx ?_
    have hb := ims_bound h g.2.length
    rw [List.take_length] at hb
    have h1 := nat_len h.1
    have hp := epay_len h.1
    rw [List.length_map, List.take_length]
    exact xs1_ret (d := bD (groupI g)) (ev_cat (ev_var (d := bD (imsI g.2)) rfl) (ev_fr (bs := epay g.1) (ev_is (ev_cat ev_one (ev_na (ev1_op (ev_var (d := grD g) rfl) ev_int (od_ixT rfl)) h.1) (by simp; omega)) (by simp [epay])) (by omega)) (by rw [frame_len]; omega)) rfl
end
end K10


namespace K10
open PySem PySem.Spec PyProof.Rows L2 Ts
section
variable {K : PySem.W.Frag} {W : WX}
theorem inV12 (x : Int) : inV (.int x) (([1, 2] : List Int).map V.int) = decide (x = 1 ∨ x = 2) := by
  show ((1 == x) || ((2 == x) || false)) = _
  rw [Bool.eq_iff_iff]
  simp
  constructor
  · rintro (h | h)
    · exact .inl h.symm
    · exact .inr h.symm
  · rintro (h | h)
    · exact .inl h.symm
    · exact .inr h.symm
/-! ### read_record -/
def recD : Rec → D
  | .image n bs => .tup [.str "image", .int n, bD bs]
  | .fin n => .tup [.str "end", .int n]
def rrR (C : Addr) (p : List Int) : Res := match rr p with
  | some r => .ret (recD r)
  | none => .exc C
abbrev spRr (K : PySem.W.Frag) : Sp := spI K (fun p : List Int => [bD p]) (fun _ => True) (rrR (He.ga K "LogFault"))
abbrev spNf0 (K : PySem.W.Frag) : Sp := spNf K
theorem rrec_xs (hR : PySem.W.exmOne K (.ref (He.ga K "RecordFault")) (.ref (He.ga K "RecordFault")) = some true) (p : List Int) : Xs K W (t_read_record K W (spNf K)) (argsE N_read_record [bD p]) (fnR (rrR (He.ga K "LogFault") p)) := by
  have no : rr p = none → ∀ {Δ : En}, fnR (rrR (He.ga K "LogFault") p) (.ex (He.ga K "LogFault") Δ) := fun h Δ => by
    show rrR _ p = _
    unfold rrR
    rw [h]
  have yes : ∀ (r : Rec), rr p = some r → fnR (rrR (He.ga K "LogFault") p) (.rt (recD r)) := fun r h => by
    show rrR _ p = _
    unfold rrR
    rw [h]
  cases p with
  | nil =>
    refine xs_seq (xs1_if (b := true) (et_is (et1_or (a := true) (b := true) (et1_val (ev_is (ev1_op (ev_lenB (ev_var (d := bD []) rfl)) ev_int od_eqI) rfl)) fun z => nomatch z) rfl) (fun _ => xs_raise (no rfl (Δ := []))) fun z => nomatch z)
  | cons x q =>
    have hx0 : Ev K (WE W) (tOp (rIx K) (tVar 0) (tC (.int 0))) [.dat (bD (x :: q)), .no, .no] (· = .int x) fun _ => False := ev1_op (ev_var (d := bD (x :: q)) rfl) ev_int (od_ixT (atI_nn (by decide) rfl))
    have hl0 : decide (((x :: q).length : Int) = 0) = false := decide_eq_false (by simp only [List.length_cons]; omega)
    refine xs_seq (xs1_if (et1_or (et1_val (ev_is (ev1_op (ev_lenB (ev_var (d := bD (x :: q)) rfl)) ev_int od_eqI) (by rw [hl0]))) fun _ => et1_val (ev1_op hx0 (ev1_tup (ds := ([1, 2] : List Int).map D.int) (ea1_cons ev_int (ea1_cons ev_int ea_nil))) (od_inTI rfl rfl))) (fun hb => ?_) fun hb => xs_next ?_)
    · refine xs_raise (no (Δ := []) ?_)
      rw [inV12] at hb
      rw [rr_cons, if_neg]
      intro z
      rw [decide_eq_true z] at hb
      cases hb
    · have h12 : x = 1 ∨ x = 2 := by
        rw [inV12] at hb
        by_cases z : x = 1 ∨ x = 2
        · exact z
        · rw [decide_eq_false z] at hb
          cases hb
      rw [rr_cons, if_pos h12] at no yes
      refine then_nx ?_
      refine xs_seq (xs_try fun W2 => ?_)
      have step : ∀ (n : Int) (k : Nat), nf q 0 1 1 = some (n, k) → Xs K W (tSeq (tIfS (tTest (tOp (rEqG K) (tOp (rIx K) (tVar 0) (tC (.int 0))) (tC (.int 1)))) (tRet (tTup (tCons (tC (.str "image")) (tCons (tVar 1) (tCons (tSl (rSlG K) (tVar 0) (tPart (tVar 2)) tNoPart) tNil))))) tNext)
          (tSeq (tIfS (tTest (tOp (rNeG K) (tVar 2) (tCB (rLenC K) (tCons (tVar 0) tNil)))) (fun _ σ H => W (.ref (He.ga K "LogFault")) none σ H) tNext)
          (tRet (tTup (tCons (tC (.str "end")) (tCons (tVar 1) tNil)))))) [.dat (bD (x :: q)), .dat (.int n), .dat (.int k)] (fnR (rrR (He.ga K "LogFault") (x :: q))) := fun n k hnf => by
        rw [hnf] at no yes
        have hx1 : ∀ {Δ : En}, Δ[0]? = some (Sl.dat (bD (x :: q))) → Ev K (WE W) (tOp (rIx K) (tVar 0) (tC (.int 0))) Δ (· = .int x) fun _ => False := fun h => ev1_op (ev_var h) ev_int (od_ixT (atI_nn (by decide) rfl))
        refine xs_seq (xs1_if (et1_val (ev1_op (hx1 rfl) ev_int od_eqI)) (fun hc => ?_) fun hc => xs_next ?_)
        · have hx : x = 1 := of_decide_eq_true hc
          refine xs1_ret (ev1_tup (ea1_cons ev_str (ea1_cons (ev_var (d := .int n) rfl) (ea1_cons (ev_slFrom (ev_var (d := bD (x :: q)) rfl) (ev_var (d := .int k) rfl)) ea_nil)))) ?_
          exact yes (.image n ((x :: q).drop k)) (if_pos hx)
        · have hx : ¬ x = 1 := of_decide_eq_false hc
          refine then_nx ?_
          refine xs_seq (xs1_if (et1_val (ev1_op (ev_var (d := .int k) rfl) (ev_lenB (ev_var (d := bD (x :: q)) rfl)) od_neI)) (fun hc2 => ?_) fun hc2 => xs_next ?_)
          · have hk : ¬ k = q.length + 1 := fun z => by
              have : (k : Int) = ((x :: q).length : Nat) := by rw [List.length_cons, z]
              rw [decide_eq_true this] at hc2
              cases hc2
            exact xs_raise (no (Δ := []) (by rw [← hnf]; show (match nf q 0 1 1 with | none => _ | some (n, k) => _) = _; rw [hnf]; exact (if_neg hx).trans (if_neg hk)))
          · have hk : k = q.length + 1 := by
              by_cases z : (k : Int) = ((x :: q).length : Nat)
              · simp only [List.length_cons] at z
                omega
              · rw [decide_eq_false z] at hc2
                cases hc2
            refine then_nx (xs1_ret (ev1_tup (ea1_cons ev_str (ea1_cons (ev_var (d := .int n) rfl) ea_nil))) ?_)
            exact yes (.fin n) ((if_neg hx).trans (if_pos hk))
      refine xs_asgT (js := [1, 2]) (R := fun d => ∃ r, nf q 0 1 1 = some r ∧ d = nfD r) (X := fun C => nf q 0 1 1 = none ∧ C = He.ga K "RecordFault") (ev_callI (i := (x :: q, 1)) (ea1_cons (ev_var (d := bD (x :: q)) rfl) (ea1_cons ev_int ea_nil)) (by show 1 ≤ (x :: q).length; simp) (fun d hd => ?_) fun C hC => ?_) (fun C hC => ?_) fun d hd => ?_
      · have hd' : (match nf q 0 1 1 with | some p => Res.ret (nfD p) | none => .exc (He.ga K "RecordFault")) = .ret d := hd
        cases e : nf q 0 1 1 with
        | none => rw [e] at hd'; cases hd'
        | some r =>
          rw [e] at hd'
          injection hd' with hd'
          exact ⟨r, rfl, hd'.symm⟩
      · have hd' : (match nf q 0 1 1 with | some p => Res.ret (nfD p) | none => .exc (He.ga K "RecordFault")) = .exc C := hC
        cases e : nf q 0 1 1 with
        | some r => rw [e] at hd'; cases hd'
        | none =>
          rw [e] at hd'
          injection hd' with hd'
          exact ⟨rfl, hd'.symm⟩
      · obtain ⟨e, rfl⟩ := hC
        rw [e] at no
        exact ⟨true, hR, fun _ => xs_raise (no rfl (Δ := [])), fun z => nomatch z⟩
      · obtain ⟨⟨n, k⟩, e, rfl⟩ := hd
        exact ⟨_, tg2, then_nx (step n k e)⟩
/-! ### read_frames -/
theorem frames_le : ∀ (k : Nat) (d : List Int), d.length ≤ k → (framesI d).length ≤ d.length
  | 0, d, h => by
    rw [framesI, dif_pos (by omega)]
    exact Nat.zero_le _
  | k + 1, d, h => by
    rw [framesI]
    split
    · exact Nat.zero_le _
    · split
      · have := frames_le k (d.drop ((numI (d.take 4)).toNat + 8)) (by rw [List.length_drop]; omega)
        rw [List.length_drop] at this
        rw [List.length_cons]
        omega
      · exact Nat.zero_le _
theorem By.drop {d : List Int} (h : By d) (n : Nat) : By (d.drop n) := fun x hx => h x (List.mem_of_mem_drop hx)
theorem By.take {d : List Int} (h : By d) (n : Nat) : By (d.take n) := fun x hx => h x (List.mem_of_mem_take hx)
def DOk (d : List Int) : Prop := By d ∧ d.length ≤ 50000
abbrev spRf (K : PySem.W.Frag) : Sp := spI K (fun d : List Int => [bD d]) DOk fun d => .ret (.lst ((framesI d).map bD))
theorem rframes_xs (d : List Int) (h : DOk d) : Xs K W (t_read_frames K W (spCs K) (spNu K)) (argsE N_read_frames [bD d]) (fnR (.ret (.lst ((framesI d).map bD)))) := by
  refine xs_seq (xs_par0 (R := (· = .int 0)) (X := fun _ => False) (by decide) ev_int (fun _ z => z.elim) fun e he => ?_)
  subst he
  refine then_nx ?_
  have fin : ∀ {Δ : En}, Δ[1]? = some (Sl.own ((framesI d).map bD)) → Xs K W (tRet (tVar 1)) Δ (fnR (.ret (.lst ((framesI d).map bD)))) := fun hΔ => xs_ret_own hΔ rfl
  refine xs_seq (xs_while (fun m Δ' => ∃ (acc : List (List Int)) (p : Nat) (x y z : Sl), Δ' = [.dat (bD d), .own (acc.map bD), .dat (.int p), x, y, z] ∧ framesI d = acc ++ framesI (d.drop p) ∧ p ≤ d.length ∧ acc.length ≤ d.length ∧ m = d.length - p) _ ⟨[], 0, _, _, _, rfl, rfl, Nat.zero_le _, Nat.zero_le _, rfl⟩ ?_)
  rintro m Δ' ⟨acc, p, x, y, z, rfl, hf, hp, ha, rfl⟩
  have hlen : ∀ {Δ : En}, Δ[0]? = some (Sl.dat (bD d)) → Ev K (WE W) (tCB (rLenC K) (tCons (tVar 0) tNil)) Δ (· = .int (d.length : Nat)) fun _ => False := fun h => ev_lenB (ev_var h)
  have hdl : (d.drop p).length = d.length - p := List.length_drop
  have stop : framesI (d.drop p) = [] → framesI d = acc := fun e => by rw [hf, e, List.append_nil]
  refine ⟨(· = decide ((p : Int) + 4 ≤ d.length)), fun _ => False, et1_val (ev1_op (ev1_op (ev_var (d := .int p) rfl) ev_int od_add) (hlen rfl) od_le), fun _ z => z.elim, fun hb => ?_, fun hb => ?_⟩
  · have hb' : p + 4 ≤ d.length := by have := of_decide_eq_true hb.symm; omega
    have e4 : (p + 4 - p : Nat) = 4 := by omega
    have hnn := num_nn 4 ((d.drop p).take 4) (by rw [List.length_take, hdl]; omega) ((h.1.drop p).take 4)
    obtain ⟨mN, hmN⟩ : ∃ mN : Nat, numI ((d.drop p).take 4) = mN := ⟨(numI ((d.drop p).take 4)).toNat, by omega⟩
    have htn : (numI ((d.drop p).take 4)).toNat = mN := by rw [hmN]; exact Int.toNat_natCast _
    have sl4 : ∀ {Δ : En}, Δ[0]? = some (Sl.dat (bD d)) → Δ[2]? = some (Sl.dat (.int p)) → Ev K (WE W) (tSl (rSlG K) (tVar 0) (tPart (tVar 2)) (tPart (tOp (rAddG K) (tVar 2) (tC (.int 4))))) Δ (· = bD ((d.drop p).take 4)) fun _ => False := fun h1 h2 => by
      have := ev_slB (b := p + 4) (ev_var h1) (ev_var h2) (ev_is (ev1_op (ev_var h2) ev_int od_add) (by rw [Int.natCast_add])) (K := K) (E := WE W) (X := fun _ => False) (bs := d) (a := p)
      rwa [e4] at this
    refine xs_seq (xs1_asg (d := .int mN) (ev_is (ev1_callI (i := (d.drop p).take 4) (ea1_cons (sl4 rfl rfl) ea_nil) trivial rfl) (by rw [hmN])) ?_)
    refine then_nx ?_
    refine xs_seq (xs1_asg (d := .int ((p + 8 + mN : Nat) : Int)) (ev_is (ev1_op (ev1_op (ev1_op (ev_var (d := .int p) rfl) ev_int od_add) (ev_var (d := .int mN) rfl) od_add) ev_int od_add) (by congr 1; omega)) ?_)
    refine then_nx ?_
    refine xs_seq (xs1_if (et1_val (ev1_op (ev_var (d := .int ((p + 8 + mN : Nat) : Int)) rfl) (hlen rfl) od_gt)) (fun hc => xs_brk ?_) fun hc => xs_next ?_)
    · have hc' : d.length < p + 8 + mN := by have := of_decide_eq_true hc; omega
      refine then_nx (fin ?_)
      have : framesI (d.drop p) = [] := by
        rw [framesI]
        split
        · rfl
        · rw [htn, if_neg (by rintro ⟨a, _⟩; omega)]
      rw [stop this]
      rfl
    · have hc' : p + 8 + mN ≤ d.length := by have := of_decide_eq_false hc; omega
      refine then_nx ?_
      have e5 : (p + 4 + mN - (p + 4) : Nat) = mN := by omega
      have slP : ∀ {Δ : En}, Δ[0]? = some (Sl.dat (bD d)) → Δ[2]? = some (Sl.dat (.int p)) → Δ[3]? = some (Sl.dat (.int mN)) → Ev K (WE W) (tSl (rSlG K) (tVar 0) (tPart (tOp (rAddG K) (tVar 2) (tC (.int 4)))) (tPart (tOp (rAddG K) (tOp (rAddG K) (tVar 2) (tC (.int 4))) (tVar 3)))) Δ (· = bD (((d.drop p).drop 4).take mN)) fun _ => False := fun h1 h2 h3 => by
        have := ev_slB (a := p + 4) (b := p + 4 + mN) (ev_var h1) (ev_is (ev1_op (ev_var h2) ev_int od_add) (by rw [Int.natCast_add])) (ev_is (ev1_op (ev1_op (ev_var h2) ev_int od_add) (ev_var h3) od_add) (by rw [Int.natCast_add, Int.natCast_add])) (K := K) (E := WE W) (X := fun _ => False) (bs := d)
        rw [e5, ← List.drop_drop] at this
        exact this
      refine xs_seq (xs1_asg (ev_tupB (slP rfl rfl rfl)) ?_)
      refine then_nx ?_
      have e6 : (p + 8 + mN - (p + 8 + mN - 4) : Nat) = 4 := by omega
      have slT : ∀ {Δ : En}, Δ[0]? = some (Sl.dat (bD d)) → Δ[4]? = some (Sl.dat (.int ((p + 8 + mN : Nat) : Int))) → Ev K (WE W) (tSl (rSlG K) (tVar 0) (tPart (tOp rSubG (tVar 4) (tC (.int 4)))) (tPart (tVar 4))) Δ (· = bD (((d.drop p).drop (4 + mN)).take 4)) fun _ => False := fun {Δ} h1 h2 => by
        have ea : Ev K (WE W) (tOp rSubG (tVar 4) (tC (.int 4))) Δ (· = .int ((p + 8 + mN - 4 : Nat) : Int)) fun _ => False := ev_is (ev1_op (ev_var h2) ev_int od_sub) (by congr 1; omega)
        have := ev_slB (a := p + 8 + mN - 4) (b := p + 8 + mN) (ev_var h1) ea (ev_var h2) (K := K) (E := WE W) (X := fun _ => False) (bs := d)
        rw [e6, show p + 8 + mN - 4 = p + (4 + mN) by omega, ← List.drop_drop] at this
        exact this
      refine xs_seq (xs1_if (et1_val (ev1_op (ev_cs (ev_var (d := bD (((d.drop p).drop 4).take mN)) rfl)) (ev_tupB (slT rfl rfl)) od_neBy)) (fun hq => xs_brk ?_) fun hq => xs_next ?_)
      · have hq' : ¬ csumI (((d.drop p).drop 4).take mN) = ((d.drop p).drop (4 + mN)).take 4 := fun z => by
          rw [decide_eq_true z] at hq
          cases hq
        refine then_nx (fin ?_)
        have : framesI (d.drop p) = [] := by
          rw [framesI]
          split
          · rfl
          · rw [htn, if_neg (by rintro ⟨_, a⟩; exact hq' a)]
        rw [stop this]
        rfl
      · have hq' : csumI (((d.drop p).drop 4).take mN) = ((d.drop p).drop (4 + mN)).take 4 := by
          by_cases z : csumI (((d.drop p).drop 4).take mN) = ((d.drop p).drop (4 + mN)).take 4
          · exact z
          · rw [decide_eq_false z] at hq
            cases hq
        have hstep : framesI (d.drop p) = ((d.drop p).drop 4).take mN :: framesI (d.drop (p + 8 + mN)) := by
          rw [framesI, dif_neg (by omega), htn, if_pos ⟨by omega, hq'⟩, List.drop_drop (i := mN + 8), show p + (mN + 8) = p + 8 + mN by omega]
        have hfl := frames_le _ d (Nat.le_refl _)
        have hal : acc.length + 1 ≤ d.length := by
          rw [hf, hstep, List.length_append, List.length_cons] at hfl
          omega
        refine then_nx ?_
        refine xs_seq (xs1_app rfl (szlt (by rw [List.length_map]; have := h.2; omega)) (ev_var (d := bD (((d.drop p).drop 4).take mN)) rfl) ?_)
        refine then_nx ?_
        refine xs1_asg (ev_var (d := .int ((p + 8 + mN : Nat) : Int)) rfl) ?_
        refine ⟨d.length - (p + 8 + mN), by omega, acc ++ [((d.drop p).drop 4).take mN], p + 8 + mN, .dat (.int mN), .dat (.int ((p + 8 + mN : Nat) : Int)), .dat (bD (((d.drop p).drop 4).take mN)), ?_, ?_, hc', ?_, rfl⟩
        · rw [List.map_append]; rfl
        · rw [hf, hstep]; simp
        · rw [List.length_append]; exact hal
  · have hb' : ¬ p + 4 ≤ d.length := by have := of_decide_eq_false hb.symm; omega
    refine then_nx (fin ?_)
    have : framesI (d.drop p) = [] := by rw [framesI, dif_pos (by omega)]
    rw [stop this]
    rfl
end
end K10


namespace K10
open PySem PySem.Spec PyProof.Rows L2 Ts
section
variable {K : PySem.W.Frag} {W : WX} {T : Tb}
/-! ### read_groups -/
abbrev spRg (K : PySem.W.Frag) : Sp := spI K (fun d : List Int => [bD d]) DOk fun d => .ret (.lst ((readI d).map grD))
theorem go_nil (im : List Im) : goG [] im = [] := rfl
theorem go_none {p : List Int} {ps : List (List Int)} {im : List Im} (h : rr p = none) : goG (p :: ps) im = [] := by rw [goG, h]
theorem go_im {p : List Int} {ps : List (List Int)} {im : List Im} {n : Int} {bs : List Int} (h : rr p = some (.image n bs)) : goG (p :: ps) im = goG ps (im ++ [(n, bs)]) := by rw [goG, h]
theorem go_fin {p : List Int} {ps : List (List Int)} {im : List Im} {n : Int} (h : rr p = some (.fin n)) : goG (p :: ps) im = (n, im) :: goG ps [] := by rw [goG, h]
theorem rgroups_xs (hL : PySem.W.exmOne K (.ref (He.ga K "LogFault")) (.ref (He.ga K "LogFault")) = some true) (d : List Int) (h : DOk d) : Xs K W (t_read_groups K W (spRf K) (spRr K)) (argsE N_read_groups [bD d]) (fnR (.ret (.lst ((readI d).map grD)))) := by
  refine xs_seq (xs_par00 ?_)
  refine then_nx ?_
  have hfl := frames_le _ d (Nat.le_refl _)
  have fin : ∀ {Δ : En} {found : List Grp}, Δ[1]? = some (Sl.own (found.map grD)) → readI d = found → Xs K W (tRet (tVar 1)) Δ (fnR (.ret (.lst ((readI d).map grD)))) := fun hΔ e => by
    rw [e]
    exact xs_ret_own hΔ rfl
  refine xs_seq (xs1_for (items := (framesI d).map bD) (ew_inl (ew_list ((ev1_callI (i := d) (d := .lst ((framesI d).map bD)) (ea1_cons (ev_var (d := bD d) rfl) ea_nil) h rfl).imp fun e he => ⟨_, he, rfl⟩))) (fun i Δ' => ∃ (found : List Grp) (ims : List Im) (x y : Sl), Δ' = [.dat (bD d), .own (found.map grD), .own (ims.map imD), x, y] ∧ readI d = found ++ goG ((framesI d).drop i) ims ∧ found.length ≤ i ∧ ims.length ≤ i) ⟨[], [], _, _, rfl, rfl, Nat.le_refl _, Nat.le_refl _⟩ ?_ ?_)
  · rintro i e Δ' hd ⟨found, ims, x, y, rfl, hr, h1, h2⟩
    obtain ⟨p, hp, rfl⟩ := of_map_get hd
    have hi := (List.getElem?_eq_some_iff.mp hp).1
    have hd2 := h.2
    rw [drop_at hp] at hr
    refine ⟨[3], _, tg_name, ?_⟩
    have step : ∀ r, rr p = some r → Xs K W (tIfS (tTest (tOp (rEqG K) (tOp (rIx K) (tVar 4) (tC (.int 0))) (tC (.str "image")))) (tDrop (tBM K "list" rAppend (tVar 2) (tCons (tSl (rSlG K) (tVar 4) (tPart (tC (.int 1))) tNoPart) tNil))) (tSeq (tDrop (tBM K "list" rAppend (tVar 1) (tCons (tTup (tCons (tOp (rIx K) (tVar 4) (tC (.int 1))) (tCons (tCB (rTupO K) (tCons (tVar 2) tNil)) tNil))) tNil)))
        (tAsg (tLst tNil) (gName 2)))) [.dat (bD d), .own (found.map grD), .own (ims.map imD), .dat (bD p), .dat (recD r)] (fun o => match o with
          | .nx Δ3 => ∃ (found : List Grp) (ims : List Im) (x y : Sl), Δ3 = [.dat (bD d), .own (found.map grD), .own (ims.map imD), x, y] ∧ readI d = found ++ goG ((framesI d).drop (i + 1)) ims ∧ found.length ≤ i + 1 ∧ ims.length ≤ i + 1
          | .ct Δ3 => ∃ (found : List Grp) (ims : List Im) (x y : Sl), Δ3 = [.dat (bD d), .own (found.map grD), .own (ims.map imD), x, y] ∧ readI d = found ++ goG ((framesI d).drop (i + 1)) ims ∧ found.length ≤ i + 1 ∧ ims.length ≤ i + 1
          | .bk Δ3 => thenP K W (tRet (tVar 1)) (fnR (.ret (.lst ((readI d).map grD)))) (.nx Δ3)
          | o => thenP K W (tRet (tVar 1)) (fnR (.ret (.lst ((readI d).map grD)))) o) := fun r hrr => by
      cases r with
      | image n bs =>
        refine xs1_if (b := true) (et1_val (ev_is (ev1_op (ev1_op (ev_var (d := recD (.image n bs)) rfl) ev_int (od_ixT (atI_nn (by decide) rfl))) ev_str od_eqX) rfl)) (fun _ => ?_) fun z => nomatch z
        refine xs1_app (d := imD (n, bs)) rfl (szlt (by rw [List.length_map]; omega)) (ev_is (ev1_sl (ev_var (d := recD (.image n bs)) rfl) (eo1_some ev_int) eo_none sd_tup) (by rw [show (1 : Int) = ((1 : Nat) : Int) from rfl, cutD_from]; rfl)) ?_
        refine ⟨found, ims ++ [(n, bs)], .dat (bD p), .dat (recD (.image n bs)), ?_, ?_, by omega, by simp; omega⟩
        · rw [List.map_append]; rfl
        · rw [hr, go_im hrr]
      | fin n =>
        refine xs1_if (b := false) (et1_val (ev_is (ev1_op (ev1_op (ev_var (d := recD (.fin n)) rfl) ev_int (od_ixT (atI_nn (by decide) rfl))) ev_str od_eqX) (by rw [decide_eq_false (by decide)]))) (fun z => nomatch z) fun _ => ?_
        refine xs_seq (xs1_app (d := grD (n, ims)) rfl (szlt (by rw [List.length_map]; omega)) (ev1_tup (ea1_cons (ev1_op (ev_var (d := recD (.fin n)) rfl) ev_int (od_ixT (atI_nn (by decide) rfl))) (ea1_cons (ev_tup_own (ds := ims.map imD) rfl) ea_nil))) ?_)
        refine then_nx (xs_new0 ?_)
        refine ⟨found ++ [(n, ims)], [], .dat (bD p), .dat (recD (.fin n)), ?_, ?_, by simp; omega, Nat.zero_le _⟩
        · rw [List.map_append]; rfl
        · rw [hr, go_fin hrr]; simp
    refine xs_seq (xs_try fun W2 => ?_)
    refine xs_asg (R := fun e => ∃ r, rr p = some r ∧ e = recD r) (X := fun C => rr p = none ∧ C = He.ga K "LogFault") (ev_callI (i := p) (ea1_cons (ev_var (d := bD p) rfl) ea_nil) trivial (fun e he => ?_) fun C hC => ?_) (fun C hC => ?_) fun e he => ?_
    · have hd' : (match rr p with | some p => Res.ret (recD p) | none => .exc (He.ga K "LogFault")) = .ret e := he
      cases e0 : rr p with
      | none => rw [e0] at hd'; cases hd'
      | some r =>
        rw [e0] at hd'
        injection hd' with hd'
        exact ⟨r, rfl, hd'.symm⟩
    · have hd' : (match rr p with | some p => Res.ret (recD p) | none => .exc (He.ga K "LogFault")) = .exc C := hC
      cases e0 : rr p with
      | some r => rw [e0] at hd'; cases hd'
      | none =>
        rw [e0] at hd'
        injection hd' with hd'
        exact ⟨rfl, hd'.symm⟩
    · obtain ⟨e0, rfl⟩ := hC
      refine ⟨true, hL, fun _ => xs_brk ?_, fun z => nomatch z⟩
      refine then_nx (fin (found := found) rfl ?_)
      rw [hr, go_none e0, List.append_nil]
    · obtain ⟨r, e0, rfl⟩ := he
      exact then_nx (step r e0)
  · rintro Δ' ⟨found, ims, x, y, rfl, hr, _, _⟩
    rw [List.length_map, List.drop_of_length_le (Nat.le_refl _), go_nil, List.append_nil] at hr
    exact then_nx (fin (found := found) rfl hr)
/-! ### _law_read -/
theorem lread_xs (d : List Int) (h : DOk d) : Xs K W (t__law_read K W (spLn K) (spCs K)) (argsE N__law_read [bD d]) (fnR (.ret (.lst ((readI d).map grD)))) := by
  refine xs_seq (xs1_par3 (a := .int 0) (b := .lst []) (c := .lst []) (ea1_cons ev_int (ea1_cons (ev1_lst ea_nil) (ea1_cons (ev1_lst ea_nil) ea_nil))) ?_)
  refine then_nx ?_
  have fin : ∀ {Δ : En} {found : List Grp}, Δ[2]? = some (Sl.dat (.lst (found.map grD))) → readI d = found → Xs K W (tRet (tVar 2)) Δ (fnR (.ret (.lst ((readI d).map grD)))) := fun hΔ e => by
    rw [e]
    exact xs1_ret (ev_var hΔ) rfl
  have fin2 : ∀ {Δ : En} {found : List Grp} {post : Out → Prop}, Δ[2]? = some (Sl.dat (.lst (found.map grD))) → readI d = found → post (.rt (.lst ((readI d).map grD))) → Xs K W (tRet (tVar 2)) Δ post := fun hΔ e k => by
    refine xs1_ret (ev_var hΔ) ?_
    rw [← e]
    exact k
  refine xs_seq (xs_while (fun m Δ' => ∃ (p : Nat) (found : List Grp) (ims : List Im) (x y z u : Sl), Δ' = [.dat (bD d), .dat (.int p), .dat (.lst (found.map grD)), .dat (.lst (ims.map imD)), x, y, z, u] ∧ readI d = found ++ goG (framesI (d.drop p)) ims ∧ p ≤ d.length ∧ found.length ≤ p ∧ ims.length ≤ p ∧ m = d.length - p) _ ⟨0, [], [], _, _, _, _, rfl, rfl, Nat.zero_le _, Nat.le_refl _, Nat.le_refl _, rfl⟩ ?_)
  rintro m Δ' ⟨p, found, ims, x, y, z, u, rfl, hr, hp, h1, h2, rfl⟩
  have hd2 := h.2
  have hlen : ∀ {Δ : En}, Δ[0]? = some (Sl.dat (bD d)) → Ev K (WE W) (tCB (rLenC K) (tCons (tVar 0) tNil)) Δ (· = .int (d.length : Nat)) fun _ => False := fun h => ev_lenB (ev_var h)
  have hdl : (d.drop p).length = d.length - p := List.length_drop
  have stop : goG (framesI (d.drop p)) ims = [] → readI d = found := fun e => by rw [hr, e, List.append_nil]
  refine ⟨(· = decide ((p : Int) + 8 ≤ d.length)), fun _ => False, et1_val (ev1_op (ev1_op (ev_var (d := .int p) rfl) ev_int od_add) (hlen rfl) od_le), fun _ z => z.elim, fun hb => ?_, fun hb => ?_⟩
  · have hb' : p + 8 ≤ d.length := by have := of_decide_eq_true hb.symm; omega
    obtain ⟨x0, g0⟩ := get_ex (xs := d) (i := p) (by omega)
    obtain ⟨x1, g1⟩ := get_ex (xs := d) (i := p + 1) (by omega)
    obtain ⟨x2, g2⟩ := get_ex (xs := d) (i := p + 2) (by omega)
    obtain ⟨x3, g3⟩ := get_ex (xs := d) (i := p + 3) (by omega)
    have t4 : (d.drop p).take 4 = [x0, x1, x2, x3] := by rw [drop_at g0, drop_at g1, drop_at g2, drop_at g3]; rfl
    have hnn := num_nn 4 ((d.drop p).take 4) (by rw [List.length_take, hdl]; omega) ((h.1.drop p).take 4)
    obtain ⟨mN, hmN⟩ : ∃ mN : Nat, numI ((d.drop p).take 4) = mN := ⟨(numI ((d.drop p).take 4)).toNat, by omega⟩
    have htn : (numI ((d.drop p).take 4)).toNat = mN := by rw [hmN]; exact Int.toNat_natCast _
    have em : ((x0 * 256 + x1) * 256 + x2) * 256 + x3 = (mN : Int) := by
      rw [← hmN, t4]
      show _ = (((0 * 256 + x0) * 256 + x1) * 256 + x2) * 256 + x3
      rw [Int.zero_mul, Int.zero_add]
    have ix : ∀ {Δ : En} (k : Nat) (v : Int), d[p + k]? = some v → Δ[0]? = some (Sl.dat (bD d)) → Δ[1]? = some (Sl.dat (.int p)) → Ev K (WE W) (tOp (rIx K) (tVar 0) (tOp (rAddG K) (tVar 1) (tC (.int k)))) Δ (· = .int v) fun _ => False := fun k v hv a b => ev1_op (ev_var a) (ev1_op (ev_var b) ev_int od_add) (by rw [← Int.natCast_add]; exact od_ixT (atI_nat (map_get hv)))
    have i0 : ∀ {Δ : En}, Δ[0]? = some (Sl.dat (bD d)) → Δ[1]? = some (Sl.dat (.int p)) → Ev K (WE W) (tOp (rIx K) (tVar 0) (tVar 1)) Δ (· = .int x0) fun _ => False := fun a b => ev1_op (ev_var a) (ev_var b) (od_ixT (atI_nat (map_get g0)))
    refine xs_seq (xs1_asg (d := .int mN) (ev_is (ev1_op (ev1_op (ev1_op (ev1_op (ev1_op (ev1_op (i0 rfl rfl) ev_int (od_mul (.inr ⟨by decide, by decide⟩))) (ix 1 x1 g1 rfl rfl) od_add) ev_int (od_mul (.inr ⟨by decide, by decide⟩))) (ix 2 x2 g2 rfl rfl) od_add) ev_int (od_mul (.inr ⟨by decide, by decide⟩))) (ix 3 x3 g3 rfl rfl) od_add) (by rw [em])) ?_)
    refine then_nx ?_
    have e5 : (p + 4 + mN - (p + 4) : Nat) = mN := by omega
    have slP : ∀ {Δ : En}, Δ[0]? = some (Sl.dat (bD d)) → Δ[1]? = some (Sl.dat (.int p)) → Δ[4]? = some (Sl.dat (.int mN)) → Ev K (WE W) (tSl (rSlG K) (tVar 0) (tPart (tOp (rAddG K) (tVar 1) (tC (.int 4)))) (tPart (tOp (rAddG K) (tOp (rAddG K) (tVar 1) (tC (.int 4))) (tVar 4)))) Δ (· = bD (((d.drop p).drop 4).take mN)) fun _ => False := fun h1 h2 h3 => by
      have := ev_slB (a := p + 4) (b := p + 4 + mN) (ev_var h1) (ev_is (ev1_op (ev_var h2) ev_int od_add) (by rw [Int.natCast_add])) (ev_is (ev1_op (ev1_op (ev_var h2) ev_int od_add) (ev_var h3) od_add) (by rw [Int.natCast_add, Int.natCast_add])) (K := K) (E := WE W) (X := fun _ => False) (bs := d)
      rw [e5, ← List.drop_drop] at this
      exact this
    refine xs_seq (xs1_par (a := bD (((d.drop p).drop 4).take mN)) (b := .int ((p + mN + 8 : Nat) : Int)) (ea1_cons (ev_tupB (slP rfl rfl rfl)) (ea1_cons (ev_is (ev1_op (ev1_op (ev_var (d := .int p) rfl) (ev_var (d := .int mN) rfl) od_add) ev_int od_add) (by rw [Int.natCast_add, Int.natCast_add]; rfl)) ea_nil)) ?_)
    refine then_nx ?_
    have e6 : (p + mN + 8 - (p + mN + 8 - 4) : Nat) = 4 := by omega
    have slT : ∀ {Δ : En}, Δ[0]? = some (Sl.dat (bD d)) → Δ[6]? = some (Sl.dat (.int ((p + mN + 8 : Nat) : Int))) → Ev K (WE W) (tSl (rSlG K) (tVar 0) (tPart (tOp rSubG (tVar 6) (tC (.int 4)))) (tPart (tVar 6))) Δ (· = bD (((d.drop p).drop (4 + mN)).take 4)) fun _ => False := fun {Δ} h1 h2 => by
      have ea : Ev K (WE W) (tOp rSubG (tVar 6) (tC (.int 4))) Δ (· = .int ((p + mN + 8 - 4 : Nat) : Int)) fun _ => False := ev_is (ev1_op (ev_var h2) ev_int od_sub) (by congr 1; omega)
      have := ev_slB (a := p + mN + 8 - 4) (b := p + mN + 8) (ev_var h1) ea (ev_var h2) (K := K) (E := WE W) (X := fun _ => False) (bs := d)
      rw [e6, show p + mN + 8 - 4 = p + (4 + mN) by omega, ← List.drop_drop] at this
      exact this
    have hfr : framesI (d.drop p) = if mN + 8 ≤ (d.drop p).length ∧ csumI (((d.drop p).drop 4).take mN) = ((d.drop p).drop (4 + mN)).take 4 then ((d.drop p).drop 4).take mN :: framesI ((d.drop p).drop (mN + 8)) else [] := by
      rw [framesI, dif_neg (by omega), htn]
    rw [List.drop_drop (i := mN + 8), show p + (mN + 8) = p + mN + 8 by omega] at hfr
    generalize hpay : ((d.drop p).drop 4).take mN = pay at *
    refine xs_seq (xs_if (Rt := fun b => (b = true → goG (framesI (d.drop p)) ims = []) ∧ (b = false → (p + mN + 8 ≤ d.length ∧ framesI (d.drop p) = pay :: framesI (d.drop (p + mN + 8))) ∧ ∃ a q, pay = a :: q ∧ (a = 1 ∨ a = 2))) (X := fun _ => False) ?_ (fun _ z => z.elim) (fun hb => ?_) fun hb => xs_next ?_)
    · refine et_or (R1 := (· = decide ((d.length : Int) < ((p + mN + 8 : Nat) : Int)))) (R2 := fun b => (b = true → goG (framesI (d.drop p)) ims = []) ∧ (b = false → (p + mN + 8 ≤ d.length ∧ framesI (d.drop p) = pay :: framesI (d.drop (p + mN + 8))) ∧ ∃ a q, pay = a :: q ∧ (a = 1 ∨ a = 2))) (et1_val (ev1_op (ev_var (d := .int ((p + mN + 8 : Nat) : Int)) rfl) (hlen rfl) od_gt)) (fun hA => ?_) (fun b _ hh => hh) fun hA => ⟨fun _ => ?_, fun z => nomatch z⟩
      · have hA' : p + mN + 8 ≤ d.length := by have := of_decide_eq_false hA.symm; omega
        refine et_or (R1 := (· = !decide (csumI pay = ((d.drop p).drop (4 + mN)).take 4))) (R2 := fun b => (b = true → goG (framesI (d.drop p)) ims = []) ∧ (b = false → (p + mN + 8 ≤ d.length ∧ framesI (d.drop p) = pay :: framesI (d.drop (p + mN + 8))) ∧ ∃ a q, pay = a :: q ∧ (a = 1 ∨ a = 2))) (et1_val (ev1_op (ev_cs (ev_var (d := bD pay) rfl)) (ev_tupB (slT rfl rfl)) od_neBy)) (fun hB => ?_) (fun b _ hh => hh) fun hB => ⟨fun _ => ?_, fun z => nomatch z⟩
        · have hB' : csumI pay = ((d.drop p).drop (4 + mN)).take 4 := by
            by_cases zz : csumI pay = ((d.drop p).drop (4 + mN)).take 4
            · exact zz
            · rw [decide_eq_false zz] at hB
              cases hB
          have hst : framesI (d.drop p) = pay :: framesI (d.drop (p + mN + 8)) := by rw [hfr, if_pos ⟨by omega, hB'⟩]
          refine et_or (R1 := (· = decide (pay = []))) (R2 := fun b => (b = true → goG (framesI (d.drop p)) ims = []) ∧ (b = false → (p + mN + 8 ≤ d.length ∧ framesI (d.drop p) = pay :: framesI (d.drop (p + mN + 8))) ∧ ∃ a q, pay = a :: q ∧ (a = 1 ∨ a = 2))) (et1_val (ev1_op (ev_var (d := bD pay) rfl) (ev1_tup (ds := ([] : List Int).map D.int) ea_nil) od_eqBy)) (fun hC => ?_) (fun b _ hh => hh) fun hC => ⟨fun _ => ?_, fun z => nomatch z⟩
          · have hC' : ¬ pay = [] := of_decide_eq_false hC.symm
            obtain ⟨a, q, hq⟩ : ∃ a q, pay = a :: q := by
              cases pay with
              | nil => exact absurd rfl hC'
              | cons a q => exact ⟨a, q, rfl⟩
            refine (et1_val (ev1_op (ev1_op (ev_var (d := bD pay) rfl) ev_int (od_ixT (d := .int a) (atI_nn (by decide) (by rw [hq]; rfl)))) (ev1_lst (ds := ([1, 2] : List Int).map D.int) (ea1_cons ev_int (ea1_cons ev_int ea_nil))) (od_inL rfl rfl))).imp fun b hb => ?_
            rw [inV12] at hb
            refine ⟨fun hbt => ?_, fun hbf => ⟨⟨hA', hst⟩, a, q, hq, ?_⟩⟩
            · rw [hst]
              refine go_none ?_
              rw [hq, rr_cons, if_neg]
              intro zz
              rw [decide_eq_true zz, hbt] at hb
              cases hb
            · by_cases zz : a = 1 ∨ a = 2
              · exact zz
              · rw [decide_eq_false zz, hbf] at hb
                cases hb
          · have : pay = [] := of_decide_eq_true hC.symm
            rw [hst]
            exact go_none (by rw [this]; rfl)
        · have hB' : ¬ csumI pay = ((d.drop p).drop (4 + mN)).take 4 := fun zz => by
            rw [decide_eq_true zz] at hB
            cases hB
          rw [hfr, if_neg (fun zz => hB' zz.2)]
          rfl
      · have hA' : d.length < p + mN + 8 := by have := of_decide_eq_true hA.symm; omega
        rw [hfr, if_neg (by rintro ⟨a, _⟩; omega)]
        rfl
    · exact fin2 rfl (stop (hb.1 rfl)) rfl
    · obtain ⟨⟨hA, hst⟩, a, q, hq, h12⟩ := hb.2 rfl
      refine then_nx ?_
      have hrr : rr pay = (match nf q 0 1 1 with | none => none | some (n, k) => if a = 1 then some (.image n (pay.drop k)) else if k = q.length + 1 then some (.fin n) else none) := by
        first
          | (rw [hq, rr_cons, if_pos h12]; done)
          | (rw [hq, rr_cons, if_pos h12]; cases nf q 0 1 1 <;> rfl)
      rw [hst] at hr stop
      have hix : ∀ {Δ : En}, Δ[5]? = some (Sl.dat (bD pay)) → Ev K (WE W) (tOp (rIx K) (tVar 5) (tC (.int 0))) Δ (· = .int a) fun _ => False := fun h => ev1_op (ev_var h) ev_int (od_ixT (atI_nn (by decide) (by rw [hq]; rfl)))
      have nfd : ∃ dn : D, dn = (match nf q 0 1 1 with | some r => nfD r | none => .non) := ⟨_, rfl⟩
      obtain ⟨dn, hdn⟩ := nfd
      refine xs_seq (xs1_par (a := dn) (b := .int ((p + mN + 8 : Nat) : Int)) (ea1_cons (ev1_callI (i := (pay, 1)) (ea1_cons (ev_var (d := bD pay) rfl) (ea1_cons ev_int ea_nil)) (by show 1 ≤ pay.length; rw [hq]; simp) ?_) (ea1_cons (ev_var rfl) ea_nil)) ?_)
      · show lnR _ = _
        unfold lnR
        show (match nf (pay.drop 1) 0 1 1 with | some p => Res.ret (nfD p) | none => .ret .non) = _
        have : pay.drop 1 = q := by rw [hq]; rfl
        rw [this, hdn]
        cases nf q 0 1 1 <;> rfl
      refine then_nx ?_
      cases e0 : nf q 0 1 1 with
      | none =>
        rw [e0] at hdn hrr
        subst hdn
        refine xs_seq (xs1_if (b := true) (et_is (et1_or (a := true) (b := true) (et1_val (ev1_op (ev_var (d := .non) rfl) ev_non od_isN)) fun z => nomatch z) rfl) (fun _ => ?_) fun z => nomatch z)
        exact fin2 rfl (stop (go_none hrr)) rfl
      | some r =>
        obtain ⟨n, k⟩ := r
        rw [e0] at hdn hrr
        replace hdn : dn = nfD (n, k) := hdn
        subst hdn
        replace hrr : rr pay = if a = 1 then some (.image n (pay.drop k)) else if k = q.length + 1 then some (.fin n) else none := hrr
        have hpl : pay.length = q.length + 1 := by rw [hq]; rfl
        have v70 : ∀ {Δ : En}, Δ[7]? = some (Sl.dat (nfD (n, k))) → Ev K (WE W) (tOp (rIx K) (tVar 7) (tC (.int 0))) Δ (· = .int n) fun _ => False := fun h => ev1_op (ev_var h) ev_int (od_ixT (atI_nn (by decide) rfl))
        have v71 : ∀ {Δ : En}, Δ[7]? = some (Sl.dat (nfD (n, k))) → Ev K (WE W) (tOp (rIx K) (tVar 7) (tC (.int 1))) Δ (· = .int (k : Nat)) fun _ => False := fun h => ev1_op (ev_var h) ev_int (od_ixT (atI_nn (by decide) rfl))
        refine xs_seq (xs1_if (et1_or (et1_val (ev1_op (ev_var (d := nfD (n, k)) rfl) ev_non od_isN)) fun _ => et1_and (et1_val (ev1_op (hix rfl) ev_int od_eqI)) fun _ => et1_val (ev1_op (v71 rfl) (ev_lenB (ev_var (d := bD pay) rfl)) od_neI)) (fun hb2 => ?_) fun hb2 => xs_next ?_)
        · have hb3 : (decide (a = 2) && !decide ((k : Int) = (pay.length : Nat))) = true := hb2
          obtain ⟨b1, b2⟩ := Bool.and_eq_true_iff.mp hb3
          have ha2 : a = 2 := of_decide_eq_true b1
          have hk : ¬ k = q.length + 1 := fun zz => by
            rw [decide_eq_true (show (k : Int) = (pay.length : Nat) by rw [hpl, zz])] at b2
            cases b2
          refine fin2 rfl (stop (go_none ?_)) rfl
          rw [hrr, if_neg (by omega), if_neg hk]
        · have hb3 : (decide (a = 2) && !decide ((k : Int) = (pay.length : Nat))) = false := hb2
          refine then_nx ?_
          refine xs1_if (et1_val (ev1_op (hix rfl) ev_int od_eqI)) (fun hc => ?_) fun hc => ?_
          · have ha1 : a = 1 := of_decide_eq_true hc
            rw [go_im (hrr.trans (if_pos ha1))] at hr
            refine xs1_asg (d := .lst ((ims ++ [(n, pay.drop k)]).map imD)) (ev_is (ev1_op (ev_var (d := .lst (ims.map imD)) rfl) (ev1_lst (ds := [imD (n, pay.drop k)]) (ea1_cons (ev1_tup (ea1_cons (v70 rfl) (ea1_cons (ev_slFrom (ev_var (d := bD pay) rfl) (v71 rfl)) ea_nil))) ea_nil)) (od_catL (szl (by rw [List.length_map]; simp; omega)))) (by rw [List.map_append]; rfl)) ?_
            exact ⟨d.length - (p + mN + 8), by omega, p + mN + 8, found, ims ++ [(n, pay.drop k)], _, _, _, _, rfl, hr, hA, by omega, by simp; omega, rfl⟩
          · have ha1 : ¬ a = 1 := of_decide_eq_false hc
            have ha2 : a = 2 := h12.resolve_left ha1
            have hk : k = q.length + 1 := by
              rw [decide_eq_true ha2] at hb3
              by_cases zz : (k : Int) = (pay.length : Nat)
              · rw [hpl] at zz
                omega
              · rw [decide_eq_false zz] at hb3
                cases hb3
            rw [go_fin (hrr.trans ((if_neg ha1).trans (if_pos hk)))] at hr
            refine xs1_par (a := .lst ((found ++ [(n, ims)]).map grD)) (b := .lst []) (ea1_cons (ev_is (ev1_op (ev_var (d := .lst (found.map grD)) rfl) (ev1_lst (ds := [grD (n, ims)]) (ea1_cons (ev1_tup (ea1_cons (v70 rfl) (ea1_cons (ev1_cb (ea1_cons (ev_var (d := .lst (ims.map imD)) rfl) ea_nil) cd_tupL) ea_nil))) ea_nil)) (od_catL (szl (by rw [List.length_map]; simp; omega)))) (by rw [List.map_append]; rfl)) (ea1_cons (ev1_lst ea_nil) ea_nil)) ?_
            exact ⟨d.length - (p + mN + 8), by omega, p + mN + 8, found ++ [(n, ims)], [], _, _, _, _, rfl, by rw [hr]; simp, hA, by simp; omega, by simp, rfl⟩
  · have hb' : ¬ p + 8 ≤ d.length := by have := of_decide_eq_false hb.symm; omega
    refine then_nx (fin (found := found) rfl (stop ?_))
    have : framesI (d.drop p) = [] := by rw [framesI, dif_pos (by omega)]
    rw [this]
    rfl
end
end K10


namespace Ts
open PySem PySem.Spec PyProof.Rows L2
section
variable {K : PySem.W.Frag} {E : L2.St → XK} {W : WX} {T : Tb} {Δ : En} {X : Addr → Prop} {ta te : TE} {post : Out → Prop}
theorem ev_roll {i : Nat} {n : Int} (hi : Δ[i]? = some (Sl.dice T)) (h : Ev K E ta Δ (· = .int n) X) (h0 : 0 < n) (h1 : n < 2 ^ 64) : Ev K E (tCallS (spRoll K T) E (tCons (tVar i) (tCons ta tNil))) Δ (fun d => ∃ i : Int, d = .int i ∧ 0 ≤ i ∧ i < n) X :=
  ev_callq hi (ea1_cons h ea_nil) (fun ds e => ⟨n, e, h0, h1⟩) (fun ds d e ⟨n', i, e', r, a, b⟩ => by
    rw [e] at e'
    injection e' with e'
    injection e' with e'
    subst e'
    injection r with r
    exact ⟨i, r, a, b⟩) fun ds C e ⟨_, _, _, z, _⟩ => nomatch z
/-- a, b = (x, [..]), the list one's own -/
theorem xs_unp {i j : Nat} {tr : TA} {d : D} {ds : List D} (hij : j ≠ i) (h : Ev K (WE W) te Δ (· = d) fun _ => False) (h2 : Ea K (WE W) tr Δ (· = ds) fun _ => False) (hl : ds.length ≤ 1000000) (k : post (.nx ((Δ.set j (.own ds)).set i (.dat d)))) :
    Xs K W (tAsg (tTup (tCons te (tCons (tLst tr) tNil))) (gTup K 2 (gCons (gName i) (gCons (gName j) gNil)))) Δ post := fun q G0 H0 G H σ Te s k1 k2 k3 k4 k5 => by
  refine h q G0 H0 G H σ _ s (fun v d1 G1 H1 g1 r1 p1 => ?_) fun _ _ _ _ z => z.elim
  refine h2 q G0 H0 G1 H1 σ _ (s.go g1) (fun vs ds1 G2 H2 g2 r2 p2 => ?_) fun _ _ _ _ z => z.elim
  subst p1; subst p2
  have s2 := s.go (s.tr g1 g2)
  refine ⟨by rw [r2.length]; exact szl hl, fun p hp => ⟨szl (by simp), fun u hu => ?_⟩⟩
  have s3 := s2.newMut (i := j) hp r2
  have gj : Gr none G2 (upd H2 p (.lst vs)) G2 (upd (upd H2 p (.lst vs)) u (.tup [v, .ref p])) :=
    ⟨Exx.refl G2, fun _ _ e => .inl e, fun a o e nt => by rw [upd_ne (ne_of_none (s3.sub a o e nt) hu)]; exact s3.sub a o e nt, fun a o _ e _ => by rw [upd_ne (ne_of_none e hu)]; exact e, fun _ => Tbd.new hu, fun _ _ z => nomatch z⟩
  have s4 := (s3.go gj.any).set (i := i) (r1.ex g2.ex)
  refine ⟨u, [v, .ref p], rfl, .inl (.inl upd_same), rfl, _, _, rfl, _, _, rfl, rfl, ?_⟩
  have e : (σ.set i (some v)).set j (some (V.ref p)) = (σ.set j (some (V.ref p))).set i (some v) := (List.set_comm _ _ hij).symm
  rw [e]
  exact k1 _ _ G2 _ (s.tr g1 g2).ex s4 k
end
end Ts
namespace K10
open PySem PySem.Spec PyProof.Rows L2 Ts
section
variable {K : PySem.W.Frag} {W : WX} {T : Tb}
/-! ### _law_group -/
abbrev spGr (K : PySem.W.Frag) (T : Tb) : Sp := spQ K T (· = []) fun _ r => ∃ g, GrpOk g ∧ r = .ret (grD g)
theorem bytes_ok {bs : List Int} (h : By bs) {n : Int} (h0 : 0 ≤ n) (h1 : n < 256) : By (bs ++ [n]) := h.app (by_one ⟨h0, h1⟩)
/-- tuple([_law_roll(dice, 256) for k in range(_law_roll(dice, n))]) -/
theorem ev_bytes {E : L2.St → XK} {Δ : En} {X : Addr → Prop} {n : Int} {v i : Nat} (h0 : 0 < n) (h1 : n ≤ 100) (hi : Δ[i]? = some (Sl.dice T)) (hw : ∀ d, ((wipeE Δ [v]).set v (.dat d))[i]? = some (Sl.dice T)) :
    Ev K E (tCB (rTupO K) (tCons (tLc (iRng1 (tCons (tCallS (spRoll K T) E (tCons (tVar i) (tCons (tC (.int n)) tNil))) tNil)) (gName v) tYes (tCallS (spRoll K T) E00 (tCons (tVar i) (tCons (tC (.int 256)) tNil))) [v]) tNil)) Δ (fun d => ∃ bs, d = bD bs ∧ By bs ∧ (bs.length : Int) < n) X := by
  refine ev_cb (Rs := fun ds => ∃ bs : List Int, ds = [.lst (bs.map D.int)] ∧ By bs ∧ (bs.length : Int) < n) (ea_cons (R := fun d => ∃ bs : List Int, d = .lst (bs.map D.int) ∧ By bs ∧ (bs.length : Int) < n) ?_ (fun _ _ => ea_nil) fun d ds ⟨bs, e1, e2⟩ e3 => ⟨bs, by rw [e1, e3], e2⟩) fun ds ⟨bs, e, er⟩ => by subst e; exact cd_tupL.imp fun d e => ⟨bs, e, er⟩
  refine ev_lc (Rw := fun items => ∃ m : Nat, (m : Int) < n ∧ items = rngD 0 1 m) (ew_rng1 ((ev_roll (T := T) (n := n) hi ev_int h0 (by omega)).imp fun d ⟨k, e, a, b⟩ => ⟨k, e, by omega, by omega, k.toNat, by omega, rfl⟩)) (fun _ j acc => ∃ bs : List Int, acc = bs.map D.int ∧ By bs ∧ bs.length = j) (fun _ _ => ⟨[], rfl, fun x h => (nomatch h), rfl⟩) (fun items j d acc ei hj ha => ?_) fun items acc ei ha => ?_
  · obtain ⟨m, hm, rfl⟩ := ei
    obtain ⟨hj, rfl⟩ := rngD_of hj
    obtain ⟨bs, rfl, hb, hl⟩ := ha
    refine ⟨[v], _, by simp, tg_name, et_yes.imp fun b eb => ⟨fun _ => ?_, fun z => by rw [eb] at z; cases z⟩⟩
    refine (ev_roll (T := T) (n := 256) (hw _) ev_int (by decide) (by decide)).imp fun d ⟨u, e, a, b⟩ => ⟨szlt (by rw [List.length_map]; omega), bs ++ [u], ?_, bytes_ok hb a b, by rw [List.length_append, hl]; rfl⟩
    rw [e, List.map_append]; rfl
  · obtain ⟨m, hm, rfl⟩ := ei
    obtain ⟨bs, rfl, hb, hl⟩ := ha
    exact ⟨bs, rfl, hb, by rw [hl, rngD_len]; exact hm⟩
theorem group_xs {ds : List D} (h : ds = []) : Xs K W (t__law_group K W (spRoll K T)) (argsQ T N__law_group ds) (fnP (fun _ r => ∃ g, GrpOk g ∧ r = .ret (grD g)) ds) := by
  subst h
  refine xs_seq (xs_new0 ?_)
  refine then_nx ?_
  refine xs_seq (xs_for (Rw := fun items => ∃ n : Nat, n ≤ 3 ∧ items = rngD 0 1 n) (X := fun _ => False) (ew_rng1 ((ev_roll (T := T) (n := 4) rfl ev_int (by decide) (by decide)).imp fun d ⟨k, e, a, b⟩ => ⟨k, e, by omega, by omega, k.toNat, by omega, rfl⟩)) (fun _ z => z.elim) (fun items i Δ' => ∃ (ims : List Im) (z : Sl), Δ' = [.dice T, .own (ims.map imD), z, .no] ∧ (∀ x ∈ ims, ImOk x) ∧ ims.length = i) (fun _ _ => ⟨[], _, rfl, fun x h => (nomatch h), rfl⟩) ?_ ?_)
  · rintro items i d Δ' ⟨n, hn, rfl⟩ hd ⟨ims, z, rfl, hi, hl⟩
    obtain ⟨hlt, rfl⟩ := rngD_of hd
    refine ⟨[2], _, tg_name, ?_⟩
    refine xs_app (R := fun d => ∃ x : Im, d = imD x ∧ ImOk x) (X := fun _ => False) rfl (szlt (by rw [List.length_map]; omega)) ?_ (fun _ z => z.elim) fun d ⟨x, e, hx⟩ => ?_
    · refine ev_tup (Rs := fun ds => ∃ x : Im, ds = [.int x.1, bD x.2] ∧ ImOk x) (ea_cons (R := fun d => ∃ k : Int, d = .int k ∧ 0 ≤ k ∧ k < 500) (Rs := fun ds => ∃ bs, ds = [bD bs] ∧ By bs ∧ (bs.length : Int) < 10) (ev_roll (T := T) (n := 500) rfl ev_int (by decide) (by decide)) (fun _ _ => ea_cons (ev_bytes (T := T) (n := 10) (by decide) (by decide) rfl fun _ => rfl) (fun _ _ => ea_nil) fun d ds ⟨bs, e1, e2⟩ e3 => ⟨bs, by rw [e1, e3], e2⟩) fun d ds ⟨k, e1, a, b⟩ ⟨bs, e2, c1, c2⟩ => ⟨(k, bs), by rw [e1, e2], ⟨a, by show k < _; omega⟩, by show bs.length ≤ _; omega, c1⟩) (fun ds ⟨x, e, _⟩ => by rw [e]; exact szl) fun ds ⟨x, e, hx⟩ => ⟨x, by rw [e]; rfl, hx⟩
    · refine ⟨ims ++ [x], .dat (.int (0 + (i : Nat) * 1)), ?_, fun y hy => ?_, by rw [List.length_append, hl]; rfl⟩
      · rw [List.map_append, e]; rfl
      · rcases List.mem_append.mp hy with z | z
        · exact hi y z
        · rw [List.mem_singleton.mp z]; exact hx
  · rintro items Δ' ⟨n, hn, rfl⟩ ⟨ims, z, rfl, hi, hl⟩
    rw [rngD_len] at hl
    refine then_nx ?_
    have h6 : Ev K (WE W) (tOp rPowG (tC (.int 10)) (tC (.int 6))) [.dice T, .own (ims.map imD), z, .no] (· = .int 1000000) fun _ => False := ev_is (ev1_op ev_int ev_int (od_pow ⟨by decide, by decide, by decide⟩)) rfl
    refine xs_ret (R := fun d => ∃ g, GrpOk g ∧ d = grD g) (X := fun _ => False) ?_ (fun _ z => z.elim) fun d ⟨g, hg, e⟩ => ⟨g, hg, by rw [e]⟩
    exact ev_tup (Rs := fun ds => ∃ g : Grp, ds = [.int g.1, .tup (g.2.map imD)] ∧ GrpOk g) (ea_cons (R := fun d => ∃ k : Int, d = .int k ∧ 0 ≤ k ∧ k < 1000000) (Rs := (· = [.tup (ims.map imD)])) (ev_roll (T := T) rfl h6 (by decide) (by decide)) (fun _ _ => ea1_cons (ev_tup_own rfl) ea_nil) fun d ds ⟨k, e1, a, b⟩ e2 => ⟨(k, ims), by rw [e1, e2], ⟨a, by show k < _; omega⟩, by show ims.length ≤ _; omega, hi⟩) (fun ds ⟨x, e, _⟩ => by rw [e]; exact szl) fun ds ⟨x, e, hx⟩ => ⟨x, hx, by rw [e]; rfl⟩
/-! ### the law -/
abbrev bT (K : PySem.W.Frag) (W : WX) (T : Tb) : TS := b_law K W T (spLb K) (spFr K) (spGr K T) (spNa K) (spRg K) (spRoll K T) (spRounds K) (spEr K) (spFr K) (spGb K) (spIr K) (spRf K) (spRg K) (spRr K)
abbrev fT (K : PySem.W.Frag) (W : WX) (T : Tb) : TE := f_law K W T (spLb K) (spFr K) (spGr K T) (spNa K) (spRg K) (spRoll K T) (spRounds K) (spEr K) (spFr K) (spGb K) (spIr K) (spRf K) (spRg K) (spRr K)
theorem all_map_ok {α : Type} {f : α → D} {n : Nat} {xs : List α} (h : ∀ x ∈ xs, okN n (f x) = true) : (xs.map f).all (okN n) = true := by
  rw [List.all_eq_true]
  intro d hd
  obtain ⟨x, hx, rfl⟩ := List.mem_map.mp hd
  exact h x hx
theorem im_okN (x : Im) : okN 2 (imD x) = true := by
  show ([.int x.1, bD x.2] : List D).all (okN 1) = true
  rw [List.all_cons, List.all_cons, bD_okN]
  rfl
theorem gr_okN (g : Grp) : okN 4 (grD g) = true := by
  have e : okN 3 (.tup (g.2.map imD)) = true := all_map_ok (n := 2) fun x _ => im_okN x
  show ([.int g.1, .tup (g.2.map imD)] : List D).all (okN 3) = true
  rw [List.all_cons, List.all_cons, e]
  rfl
theorem grs_ok (gs : List Grp) : (D.lst (gs.map grD)).ok = true := okN_ok (n := 5) (all_map_ok (n := 4) fun g _ => gr_okN g)
theorem rec_ok (n : Int) (bs : List Int) : (recD (.image n bs)).ok = true := by
  refine okN_ok (n := 2) ?_
  have e0 : okN 1 (.str "image") = true := by
    have : PyData.strOk "image" = true := by decide +kernel
    exact this
  show ([.str "image", .int n, bD bs] : List D).all (okN 1) = true
  rw [List.all_cons, List.all_cons, List.all_cons, bD_okN, e0]
  rfl
theorem fin_ok (n : Int) : (recD (.fin n)).ok = true := by
  refine okN_ok (n := 2) ?_
  have e0 : okN 1 (.str "end") = true := by
    have : PyData.strOk "end" = true := by decide +kernel
    exact this
  show ([.str "end", .int n] : List D).all (okN 1) = true
  rw [List.all_cons, List.all_cons, e0]
  rfl
section
variable {E : L2.St → XK} {Δ : En} {X : Addr → Prop} {te ta tb : TE} {bs cs : List Int} {g : Grp}
theorem ev_rg (h : Ev K E te Δ (· = bD bs) X) (hd : DOk bs) : Ev K E (tCallS (spRg K) E (tCons te tNil)) Δ (· = .lst ((readI bs).map grD)) X := ev1_callI bs (ea1_cons h ea_nil) hd rfl
theorem ev_rf (h : Ev K E te Δ (· = bD bs) X) (hd : DOk bs) : Ev K E (tCallS (spRf K) E (tCons te tNil)) Δ (· = .lst ((framesI bs).map bD)) X := ev1_callI bs (ea1_cons h ea_nil) hd rfl
theorem ev_lb (h : Ev K E te Δ (· = grD g) X) (hg : GrpOk g) : Ev K E (tCallS (spLb K) E (tCons te tNil)) Δ (· = bD (groupI g)) X := ev1_callI g (ea1_cons h ea_nil) hg rfl
theorem ev_lst1 {ds : List D} (h : Ev K E te Δ (· = .lst ds) X) : Ev K E (tCB (rLstO K) (tCons te tNil)) Δ (· = .lst ds) X := ev1_cb (ea1_cons h ea_nil) cd_lstL
end
theorem log_take {gs : List Grp} {i : Nat} {g : Grp} (h : gs[i]? = some g) : logI (gs.take (i + 1)) = logI (gs.take i) ++ groupI g := by
  rw [take_at h]
  simp [logI]
def endsD (gs : List Grp) (i : Nat) : List D := (List.range (i + 1)).map fun j => .int ((lenG (gs.take j) : Nat) : Int)
theorem ends_s {gs : List Grp} {i : Nat} : endsD gs (i + 1) = endsD gs i ++ [.int ((lenG (gs.take (i + 1)) : Nat) : Int)] := by
  unfold endsD
  rw [List.range_succ, List.map_append]
  rfl
theorem ends_at {gs : List Grp} {i j : Nat} (h : j ≤ i) : (endsD gs i)[j]? = some (.int ((lenG (gs.take j) : Nat) : Int)) := by
  unfold endsD
  rw [List.getElem?_map, List.getElem?_range (by omega)]
  rfl
/-- behind the changed byte -/
theorem tail_xs (gs : List Grp) (hg : ∀ g ∈ gs, GrpOk g) (hl : gs.length ≤ 5) (s4 s5 s6 s7 s8 : Sl) :
    Xs K W (tSeq (tAsg (tCB (rTupO K) (tCons (tLc (iRng1 (tCons (tCallS (spRoll K T) (WE W) (tCons (tVar 1) (tCons (tC (.int 12)) tNil))) tNil)) (gName 12) tYes (tCallS (spRoll K T) E00 (tCons (tVar 1) (tCons (tC (.int 256)) tNil))) [12]) tNil)) (gName 9))
  (tSeq (tIfS (tOr (tTest (tOp (rNeG K) (tCB (rLstO K) (tCons (tCallS (spRg K) (WE W) (tCons (tOp (rAddG K) (tVar 3) (tVar 9)) tNil)) tNil)) (tCallS (spRg K) (WE W) (tCons (tOp (rAddG K) (tVar 3) (tVar 9)) tNil)))) (tTest (tOp (rNeG K) (tCallS (spRg K) (WE W) (tCons (tVar 3) tNil)) (tCB (rLstO K) (tCons (tVar 2) tNil))))) (tRet (tC (.bl false))) tNext)
  (tSeq (tAsg (tCallS (spRoll K T) (WE W) (tCons (tVar 1) (tCons (tOp rPowG (tC (.int 10)) (tC (.int 9))) tNil))) (gName 10))
  (tSeq (tIfS (tTest (tOp (rNeG K) (tCallS (spRr K) (WE W) (tCons (tOp (rAddG K) (tOp (rAddG K) (tOp (rAddG K) (tSl (rSlG K) (tCallS (spNa K) (WE W) (tCons (tC (.int 0)) tNil)) tNoPart (tPart (tC (.int 0)))) (tTup (tCons (tC (.int 1)) tNil))) (tCallS (spNa K) (WE W) (tCons (tVar 10) tNil))) (tVar 9)) tNil)) (tTup (tCons (tC (.str "image")) (tCons (tVar 10) (tCons (tVar 9) tNil)))))) (tRet (tC (.bl false))) tNext)
  (tIfS (tOr (tTest (tOp (rNeG K) (tCallS (spEr K) (WE W) (tCons (tVar 10) tNil)) (tCallS (spFr K) (WE W) (tCons (tOp (rAddG K) (tTup (tCons (tC (.int 2)) tNil)) (tCallS (spNa K) (WE W) (tCons (tVar 10) tNil))) tNil)))) (tOr (tTest (tOp (rNeG K) (tCallS (spIr K) (WE W) (tCons (tVar 10) (tCons (tVar 9) tNil))) (tCallS (spFr K) (WE W) (tCons (tOp (rAddG K) (tOp (rAddG K) (tTup (tCons (tC (.int 1)) tNil)) (tCallS (spNa K) (WE W) (tCons (tVar 10) tNil))) (tVar 9)) tNil)))) (tTest (tOp (rNeG K) (tCallS (spFr K) (WE W) (tCons (tVar 9) tNil)) (tCallS (spFr K) (WE W) (tCons (tVar 9) tNil)))))) (tRet (tC (.bl false))) tNext)))))
      [.no, .dice T, .dat (.lst (gs.map grD)), .dat (bD (logI gs)), s4, s5, s6, s7, s8, .no, .no, .no, .no, .no] (lPost T 12) := by
  have hll := log_len gs hg
  have hby := by_log gs hg
  refine xs_seq (xs_asg (X := fun _ => False) (ev_bytes (T := T) (n := 12) (by decide) (by decide) rfl fun _ => rfl) (fun _ z => z.elim) fun d hd => ?_)
  obtain ⟨bs, rfl, hb, hbl⟩ := hd
  refine then_nx ?_
  have hcat : ∀ {Δ : En}, Δ[3]? = some (Sl.dat (bD (logI gs))) → Δ[9]? = some (Sl.dat (bD bs)) → Ev K (WE W) (tOp (rAddG K) (tVar 3) (tVar 9)) Δ (· = bD (logI gs ++ bs)) fun _ => False := fun h1 h2 => ev_cat (ev_var h1) (ev_var h2) (by omega)
  have dok : DOk (logI gs ++ bs) := ⟨hby.app hb, by rw [List.length_append]; omega⟩
  have dok2 : DOk (logI gs) := ⟨hby, by omega⟩
  refine xs_seq (xs1_if (b := false) (et_is (et1_or (a := false) (b := false) (et1_val (ev1_op (ev_lst1 (ev_rg (hcat rfl rfl) dok)) (ev_rg (hcat rfl rfl) dok) (od_neSelf (grs_ok _) rfl))) fun _ => et1_val (ev1_op (ev_rg (ev_var (d := bD (logI gs)) rfl) dok2) (ev_lst1 (ev_var (d := .lst (gs.map grD)) rfl)) (od_neSelf (grs_ok _) (by rw [read_log gs hg])))) rfl) (fun z => nomatch z) fun _ => xs_next ?_)
  refine then_nx ?_
  have h9 : ∀ {Δ : En}, Ev K (WE W) (tOp rPowG (tC (.int 10)) (tC (.int 9))) Δ (· = .int 1000000000) fun _ => False := fun {Δ} => ev_is (ev1_op ev_int ev_int (od_pow ⟨by decide, by decide, by decide⟩)) rfl
  refine xs_seq (xs_asg (X := fun _ => False) (ev_roll (T := T) rfl h9 (by decide) (by decide)) (fun _ z => z.elim) fun d hd => ?_)
  obtain ⟨n, rfl, n0, n1⟩ := hd
  refine then_nx ?_
  have hno : NumOk n := ⟨n0, by omega⟩
  have him : ImOk (n, bs) := ⟨hno, by show bs.length ≤ _; omega, hb⟩
  have hnl := nat_len hno
  have hil := ipay_len him
  have hel := epay_len hno
  have eim : ipay (n, bs) = (natI (0 : Int).toNat).take 0 ++ [1] ++ natI n.toNat ++ bs := by simp [ipay]
  refine xs_seq (xs1_if (b := false) (et1_val (ev1_op (ev1_callI (i := ipay (n, bs)) (d := recD (.image n bs)) (ea1_cons (ev_is (ev_cat (ev_cat (ev_cat (ev_slTo (b := 0) (ev_na ev_int ⟨by decide, by decide⟩) ev_int) ev_one (by simp)) (ev_na (ev_var (d := .int n) rfl) hno) (by simp; omega)) (ev_var (d := bD bs) rfl) (by simp; omega)) (by rw [eim])) ea_nil) trivial (by
    show rrR _ _ = _
    unfold rrR
    rw [rr_ipay hno])) (ev1_tup (ea1_cons ev_str (ea1_cons (ev_var (d := .int n) rfl) (ea1_cons (ev_var (d := bD bs) rfl) ea_nil)))) (od_neSelf (rec_ok _ _) rfl))) (fun z => nomatch z) fun _ => xs_next ?_)
  refine then_nx ?_
  refine xs1_if (b := false) (et_is (et1_or (a := false) (b := false) (et1_val (ev1_op (ev1_callI (i := n) (ea1_cons (ev_var (d := .int n) rfl) ea_nil) hno rfl) (ev_fr (bs := epay n) (ev_is (ev_cat ev_one (ev_na (ev_var (d := .int n) rfl) hno) (by simp; omega)) (by simp [epay])) (by omega)) (od_neSelf (bD_ok _) rfl))) fun _ =>
    et_is (et1_or (a := false) (b := false) (et1_val (ev1_op (ev1_callI (i := (n, bs)) (ea1_cons (ev_var (d := .int n) rfl) (ea1_cons (ev_var (d := bD bs) rfl) ea_nil)) him rfl) (ev_fr (bs := ipay (n, bs)) (ev_is (ev_cat (ev_cat ev_one (ev_na (ev_var (d := .int n) rfl) hno) (by simp; omega)) (ev_var (d := bD bs) rfl) (by simp; omega)) (by simp [ipay])) (by omega)) (od_neSelf (bD_ok _) rfl))) fun _ =>
      et1_val (ev1_op (ev_fr (ev_var (d := bD bs) rfl) (by omega)) (ev_fr (ev_var (d := bD bs) rfl) (by omega)) (od_neSelf (bD_ok _) rfl))) rfl) rfl) (fun z => nomatch z) fun _ => xs_next ⟨rfl, rfl⟩
theorem body_xs : Xs K W (bT K W T) (Sl.no :: Sl.dice T :: List.replicate 12 Sl.no) (lPost T 12) := by
  refine xs_seq (xs_asg (R := fun d => ∃ gs : List Grp, d = .lst (gs.map grD) ∧ (∀ g ∈ gs, GrpOk g) ∧ gs.length ≤ 5) (X := fun _ => False) (ev_lc (Rw := fun items => ∃ n : Nat, n ≤ 5 ∧ items = rngD 0 1 n) (ew_rng1 ((ev_roll (T := T) (n := 6) rfl ev_int (by decide) (by decide)).imp fun d ⟨k, e, a, b⟩ => ⟨k, e, by omega, by omega, k.toNat, by omega, rfl⟩)) (fun _ i acc => ∃ gs : List Grp, acc = gs.map grD ∧ (∀ g ∈ gs, GrpOk g) ∧ gs.length = i) (fun _ _ => ⟨[], rfl, fun x h => (nomatch h), rfl⟩) (fun items i d acc ei hi ha => ?_) fun items acc ei ha => ?_) (fun _ z => z.elim) ?_)
  · obtain ⟨n, hn, rfl⟩ := ei
    obtain ⟨hi, rfl⟩ := rngD_of hi
    obtain ⟨gs, rfl, hg, hl⟩ := ha
    refine ⟨[12], _, by simp, tg_name, et_yes.imp fun b eb => ⟨fun _ => ?_, fun z => by rw [eb] at z; cases z⟩⟩
    refine ev_callq (T := T) (i := 1) rfl (Rs := (· = [])) ea_nil (fun ds e => e) (fun ds d _ ⟨g, hgo, e⟩ => ?_) fun ds C _ ⟨_, _, z⟩ => nomatch z
    injection e with e
    refine ⟨szlt (by rw [List.length_map]; omega), gs ++ [g], ?_, fun y hy => ?_, by rw [List.length_append, hl]; rfl⟩
    · rw [e, List.map_append]; rfl
    · rcases List.mem_append.mp hy with z | z
      · exact hg y z
      · rw [List.mem_singleton.mp z]; exact hgo
  · obtain ⟨n, hn, rfl⟩ := ei
    obtain ⟨gs, rfl, hg, hl⟩ := ha
    exact ⟨gs, rfl, hg, by rw [hl, rngD_len]; exact hn⟩
  rintro d ⟨gs, rfl, hg, hgl⟩
  refine then_nx ?_
  have hll := log_len gs hg
  have hby := by_log gs hg
  have dok : DOk (logI gs) := ⟨hby, by omega⟩
  refine xs_seq (xs_unp (d := bD []) (ds := [.int 0]) (by decide) (ev1_tup ea_nil) (ea1_cons ev_int ea_nil) (by decide) ?_)
  refine then_nx ?_
  refine xs_seq (xs1_for (items := gs.map grD) (ew_inl (ew_list ((ev_var (d := .lst (gs.map grD)) rfl).imp fun d e => ⟨_, e, rfl⟩))) (fun i Δ' => ∃ z, Δ' = [.no, .dice T, .dat (.lst (gs.map grD)), .dat (bD (logI (gs.take i))), .own (endsD gs i), z, .no, .no, .no, .no, .no, .no, .no, .no]) ⟨_, rfl⟩ ?_ ?_)
  · rintro i d Δ' hd ⟨z, rfl⟩
    obtain ⟨g, hgi, rfl⟩ := of_map_get hd
    have hgo := hg g (List.mem_of_getElem? hgi)
    have hi := (List.getElem?_eq_some_iff.mp hgi).1
    have hgll := group_len hgo
    have hlt := log_len (gs.take i) fun y hy => hg y (List.mem_of_mem_take hy)
    have hlt2 : (gs.take i).length ≤ 5 := by rw [List.length_take]; omega
    refine ⟨[5], _, tg_name, ?_⟩
    have g0 : ∀ {Δ : En}, Δ[5]? = some (Sl.dat (grD g)) → Ev K (WE W) (tOp (rIx K) (tVar 5) (tC (.int 0))) Δ (· = .int g.1) fun _ => False := fun h => ev1_op (ev_var h) ev_int (od_ixT (atI_nn (by decide) rfl))
    have g1 : ∀ {Δ : En}, Δ[5]? = some (Sl.dat (grD g)) → Ev K (WE W) (tOp (rIx K) (tVar 5) (tC (.int 1))) Δ (· = .tup (g.2.map imD)) fun _ => False := fun h => ev1_op (ev_var h) ev_int (od_ixT (atI_nn (by decide) rfl))
    refine xs_seq (xs1_if (b := false) (et1_val (ev1_op (ev1_callI (i := g) (ea1_cons (g0 rfl) (ea1_cons (g1 rfl) ea_nil)) hgo rfl) (ev_lb (ev_var (d := grD g) rfl) hgo) (od_neSelf (bD_ok _) rfl))) (fun z => nomatch z) fun _ => xs_next ?_)
    refine then_nx ?_
    refine xs_seq (xs1_asg (d := bD (logI (gs.take (i + 1)))) (ev_is (ev_cat (ev_var (d := bD (logI (gs.take i))) rfl) (ev_lb (ev_var (d := grD g) rfl) hgo) (by omega)) (by rw [log_take hgi])) ?_)
    refine then_nx ?_
    refine xs1_app (d := .int ((lenG (gs.take (i + 1)) : Nat) : Int)) rfl (szlt (by simp [endsD]; omega)) (ev_lenB (ev_var (d := bD (logI (gs.take (i + 1)))) rfl)) ?_
    refine ⟨.dat (grD g), ?_⟩
    rw [ends_s]
    rfl
  · rintro Δ' ⟨z, rfl⟩
    rw [List.length_map, List.take_length]
    refine then_nx ?_
    refine xs_freeze (i := 4) (ds := endsD gs gs.length) rfl ?_
    -- read back
    refine xs_seq (xs1_if (b := false) (et_is (et1_or (a := false) (b := false) (et1_val (ev1_op (ev_rg (ev_var (d := bD (logI gs)) rfl) dok) (ev_var (d := .lst (gs.map grD)) rfl) (od_neSelf (grs_ok _) (by rw [read_log gs hg])))) fun _ => et1_val (ev_is (ev1_op (x := .int ((framesI (logI gs)).length : Nat)) (y := .int (gs.map fun g => (1 + (g.2.length : Nat) : Int)).sum) (ev_is (ev1_cb (ea1_cons (ev_rf (ev_var (d := bD (logI gs)) rfl) dok) ea_nil) cd_lenL) (by rw [List.length_map])) (ev1_cb (ds := [.lst ((gs.map fun g => (1 + (g.2.length : Nat) : Int)).map D.int)]) (ea1_cons ?_ ea_nil) cd_sum) od_neI) ?_)) rfl) (fun z => nomatch z) fun _ => xs_next ?_)
    · refine ev_lc (Rw := (· = gs.map grD)) (ew_inl (ew_list ((ev_var (d := .lst (gs.map grD)) rfl).imp fun d e => ⟨_, e, rfl⟩))) (fun _ j acc => acc = ((gs.take j).map fun g => (1 + (g.2.length : Nat) : Int)).map D.int) (fun _ _ => rfl) (fun items j d acc ei hj ea => ?_) fun items acc ei ea => ?_
      · subst ei
        obtain ⟨g, hgj, rfl⟩ := of_map_get hj
        refine ⟨[5], _, by simp, tg_name, et_yes.imp fun b eb => ⟨fun _ => ?_, fun z => by rw [eb] at z; cases z⟩⟩
        refine (ev1_op ev_int (ev_is (d' := .int (g.2.length : Nat)) (ev1_cb (ea1_cons (ev1_op (ev_var (d := grD g) rfl) ev_int (od_ixT (d := .tup (g.2.map imD)) (atI_nn (by decide) rfl))) ea_nil) cd_lenT) (by rw [List.length_map])) od_add).imp fun d ed => ⟨?_, ?_⟩
        · rw [ea, List.length_map, List.length_map, List.length_take]
          exact szlt (by omega)
        · rw [ea, ed, take_at hgj, List.map_append, List.map_append]
          rfl
      · subst ei
        rw [ea, List.length_map, List.take_length]
    · rw [frames_count gs hg]
      simp
    refine then_nx ?_
    -- cut
    refine xs_seq (xs_asg (R := fun d => ∃ c : Nat, d = .int c) (X := fun _ => False) ((ev_roll (T := T) (n := (logI gs).length + 1) rfl (ev1_op (ev_lenB (ev_var (d := bD (logI gs)) rfl)) ev_int od_add) (by omega) (by omega)).imp fun d ⟨k, e, a, b⟩ => ⟨k.toNat, by rw [e]; congr 1; omega⟩) (fun _ z => z.elim) ?_)
    rintro d ⟨c, rfl⟩
    refine then_nx ?_
    have dokc : DOk ((logI gs).take c) := ⟨hby.take c, by rw [List.length_take]; omega⟩
    refine xs_seq (xs1_if (b := false) (et1_val (ev1_op (x := .lst ((fit gs c).map grD)) (y := .lst ((fit gs c).map grD)) (ev_is (ev_rg (ev_slTo (b := c) (ev_var (d := bD (logI gs)) rfl) (ev_var (d := .int c) rfl)) dokc) (by rw [read_cut gs c hg])) ?_ (od_neSelf (grs_ok _) rfl))) (fun z => nomatch z) fun _ => xs_next ?_)
    · refine ev_lc (Rw := (· = enumD (gs.map grD))) (ew_enum ((ev_var (d := .lst (gs.map grD)) rfl).imp fun d e => ⟨_, e, rfl⟩)) (fun _ j acc => acc = (fit (gs.take j) c).map grD) (fun _ _ => rfl) (fun items j d acc ei hj ea => ?_) fun items acc ei ea => ?_
      · subst ei
        obtain ⟨d', hd', rfl⟩ := enumD_of hj
        obtain ⟨g, hgj, rfl⟩ := of_map_get hd'
        have hj2 := (List.getElem?_eq_some_iff.mp hgj).1
        refine ⟨[12, 5], _, by simp, tg2, ?_⟩
        have ej : ((j : Nat) : Int) + 1 = ((j + 1 : Nat) : Int) := by omega
        have hfs : fit (gs.take (j + 1)) c = fit (gs.take j) c ++ if lenG (gs.take (j + 1)) ≤ c then [g] else [] := by
          rw [take_at hgj, fit_snoc]
        refine (et1_val (ev1_op (ev1_op (ev_var (d := .lst (endsD gs gs.length)) rfl) (ev1_op (ev_var (d := .int (j : Nat)) rfl) ev_int od_add) (by rw [ej]; exact od_ixL (atI_nat (ends_at (by omega))))) (ev_var (d := .int c) rfl) od_le)).imp fun b eb => ⟨fun hbt => ?_, fun hbf => ?_⟩
        · have hle : lenG (gs.take (j + 1)) ≤ c := by
            rw [hbt] at eb
            have := of_decide_eq_true eb.symm
            omega
          refine (ev_var (d := grD g) rfl).imp fun d ed => ⟨?_, ?_⟩
          · rw [ea, List.length_map]
            have : (fit (gs.take j) c).length ≤ 5 := by
              have h5 := congrArg List.length hfs
              have : ∀ (xs : List Grp) (c : Nat), (fit xs c).length ≤ xs.length := fun xs => by
                induction xs with
                | nil => intro c; exact Nat.zero_le _
                | cons x xs ih =>
                  intro c
                  rw [fit]
                  split
                  · rw [List.length_cons, List.length_cons]; exact Nat.succ_le_succ (ih _)
                  · exact Nat.zero_le _
              have := this (gs.take j) c
              rw [List.length_take] at this
              omega
            exact szlt (by omega)
          · rw [ea, ed, hfs, if_pos hle, List.map_append]
            rfl
        · have hle : ¬ lenG (gs.take (j + 1)) ≤ c := by
            rw [hbf] at eb
            have := of_decide_eq_false eb.symm
            omega
          rw [ea, hfs, if_neg hle, List.append_nil]
      · subst ei
        rw [ea, enumD_len, List.length_map, List.take_length]
    refine then_nx ?_
    -- one byte changed
    refine xs_seq (xs1_if (et1_val (ev1_op (ev_var (d := bD (logI gs)) rfl) (ev1_tup (ds := ([] : List Int).map D.int) ea_nil) od_neBy)) (fun hne => ?_) fun _ => xs_next (then_nx (tail_xs gs hg hgl _ _ _ _ _)))
    have hne' : ¬ logI gs = [] := fun e => by
      rw [decide_eq_true e] at hne
      cases hne
    have hpos : 0 < (logI gs).length := List.length_pos_iff.mpr hne'
    refine xs_seq (xs_asg (R := fun d => ∃ k : Nat, d = .int k ∧ k < (logI gs).length) (X := fun _ => False) ((ev_roll (T := T) (n := (logI gs).length) rfl (ev_lenB (ev_var (d := bD (logI gs)) rfl)) (by omega) (by omega)).imp fun d ⟨k, e, a, b⟩ => ⟨k.toNat, by rw [e]; congr 1; omega, by omega⟩) (fun _ z => z.elim) ?_)
    rintro d ⟨k, rfl, hk⟩
    refine then_nx ?_
    obtain ⟨x, hx⟩ := get_ex hk
    refine xs_seq (xs_asg (R := fun d => ∃ bs : List Int, d = bD bs ∧ DOk bs) (X := fun _ => False) ?_ (fun _ z => z.elim) ?_)
    · refine ev_op (Ra := fun d => ∃ bs : List Int, d = bD bs ∧ By bs ∧ bs.length ≤ 2001) (Rb := (· = bD ((logI gs).drop (k + 1)))) ?_ (ev_slFrom (a := k + 1) (ev_var (d := bD (logI gs)) rfl) (ev_is (ev1_op (ev_var (d := .int k) rfl) ev_int od_add) (by rw [Int.natCast_add]; rfl))) fun a b ⟨bs, e1, hb, hl⟩ e2 => ?_
      · refine ev_op (Ra := (· = bD ((logI gs).take k))) (Rb := fun d => ∃ v : Int, d = bD [v] ∧ 0 ≤ v ∧ v < 256) (ev_slTo (b := k) (ev_var (d := bD (logI gs)) rfl) (ev_var (d := .int k) rfl)) ?_ fun a b e1 ⟨v, e2, v0, v1⟩ => ?_
        · refine ev_tup (Rs := fun ds => ∃ v : Int, ds = [.int v] ∧ 0 ≤ v ∧ v < 256) (ea_cons (R := fun d => ∃ v : Int, d = .int v ∧ 0 ≤ v ∧ v < 256) (Rs := (· = [])) ?_ (fun _ _ => ea_nil) fun d ds ⟨v, e1, e2⟩ e3 => ⟨v, by rw [e1, e3], e2⟩) (fun ds ⟨v, e, _⟩ => by rw [e]; exact szl) fun ds ⟨v, e, hv⟩ => ⟨v, by rw [e]; rfl, hv⟩
          refine ev_op (Ra := IntD) (Rb := (· = .int 256)) ?_ ev_int fun a b ⟨u, e1⟩ e2 => ?_
          · refine ev_op (Ra := IntD) (Rb := fun d => ∃ i : Int, d = .int i ∧ 0 ≤ i ∧ i < 255) ((ev1_op (ev1_op (ev_var (d := bD (logI gs)) rfl) (ev_var (d := .int k) rfl) (od_ixT (atI_nat (map_get hx)))) ev_int od_add).imp fun d e => ⟨_, e⟩) (ev_roll (T := T) (n := 255) rfl ev_int (by decide) (by decide)) fun a b ⟨u, e1⟩ ⟨w, e2, _, _⟩ => ?_
            subst e1; subst e2
            exact od_add.imp fun d e => ⟨_, e⟩
          · subst e1; subst e2
            exact (od_mod (by decide)).imp fun d e => ⟨_, e, Int.emod_nonneg _ (by decide), Int.emod_lt_of_pos _ (by decide)⟩
        · subst e1; subst e2
          refine (od_catT (szl (by rw [List.length_map, List.length_map, List.length_take]; simp; omega))).imp fun d e => ⟨(logI gs).take k ++ [v], by rw [e, bD_app], bytes_ok (hby.take k) v0 v1, by rw [List.length_append, List.length_take]; simp; omega⟩
      · subst e1; subst e2
        refine (od_catT (szl (by rw [List.length_map, List.length_map, List.length_drop]; omega))).imp fun d e => ⟨bs ++ (logI gs).drop (k + 1), by rw [e, bD_app], hb.app (hby.drop _), by rw [List.length_append, List.length_drop]; omega⟩
    rintro d ⟨bs, rfl, hbs⟩
    refine then_nx ?_
    exact xs1_if (b := false) (et1_val (ev1_op (ev_lst1 (ev_rg (ev_var (d := bD bs) rfl) hbs)) (ev_rg (ev_var (d := bD bs) rfl) hbs) (od_neSelf (grs_ok _) rfl))) (fun z => nomatch z) fun _ => xs_next (then_nx (tail_xs gs hg hgl _ _ _ _ _))
/-! behind the loop -/
def badL : List (List Int) := [[], [3, 1], [2], [2, 5, 5], [1, 200], [2, 128, 0]]
theorem bad_no : ∀ p ∈ badL, rr p = none := by
  intro p hp
  simp only [badL, List.mem_cons, List.not_mem_nil, or_false] at hp
  rcases hp with rfl | rfl | rfl | rfl | rfl | rfl <;> rfl
theorem end_law (hL : PySem.W.exmOne K (.ref (He.ga K "LogFault")) (.ref (He.ga K "LogFault")) = some true) :
    Xs K W (tSeq (tAsg (tLst (tCons (tTup tNil) (tCons (tTup (tCons (tC (.int 3)) (tCons (tC (.int 1)) tNil))) (tCons (tTup (tCons (tC (.int 2)) tNil)) (tCons (tTup (tCons (tC (.int 2)) (tCons (tC (.int 5)) (tCons (tC (.int 5)) tNil)))) (tCons (tTup (tCons (tC (.int 1)) (tCons (tC (.int 200)) tNil))) (tCons (tTup (tCons (tC (.int 2)) (tCons (tC (.int 128)) (tCons (tC (.int 0)) tNil)))) tNil))))))) (gName 11)) (tRet (fT K W T)))
      (Sl.no :: Sl.dice T :: List.replicate 12 Sl.no) (· = .rt (.bl true)) := by
  refine xs_seq (xs1_asg (d := .lst (badL.map bD)) (ev1_lst (ds := badL.map bD) (ea1_cons (ev1_tup ea_nil) (ea1_cons (ev1_tup (ea1_cons ev_int (ea1_cons ev_int ea_nil))) (ea1_cons (ev1_tup (ea1_cons ev_int ea_nil)) (ea1_cons (ev1_tup (ea1_cons ev_int (ea1_cons ev_int (ea1_cons ev_int ea_nil)))) (ea1_cons (ev1_tup (ea1_cons ev_int (ea1_cons ev_int ea_nil))) (ea1_cons (ev1_tup (ea1_cons ev_int (ea1_cons ev_int (ea1_cons ev_int ea_nil)))) ea_nil))))))) ?_)
  refine then_nx ?_
  refine xs1_ret (d := .bl true) (ev_is (ev1_andV (a := true) (b := true) (ev1_op (x := .lst []) ?_ (ev1_lst ea_nil) (od_eqSelf rfl rfl)) fun _ => ev1_op (ev1_callI (i := [2, 7]) (d := recD (.fin 7)) (ea1_cons (ev1_tup (ea1_cons ev_int (ea1_cons ev_int ea_nil))) ea_nil) trivial rfl) (ev1_tup (ea1_cons ev_str (ea1_cons ev_int ea_nil))) (od_eqSelf (fin_ok _) rfl)) rfl) rfl
  refine ev_lc (Rw := (· = badL.map bD)) (ew_inl (ew_list ((ev_var (d := .lst (badL.map bD)) rfl).imp fun d e => ⟨_, e, rfl⟩))) (fun _ _ acc => acc = []) (fun _ _ => rfl) (fun items i d acc ei hi ea => ?_) fun items acc ei ea => by rw [ea]
  subst ei
  obtain ⟨p, hp, rfl⟩ := of_map_get hi
  have hno := bad_no p (List.mem_of_getElem? hp)
  refine ⟨[13], _, by simp, tg_name, ?_⟩
  refine (et1_val (b := false) (ev_is (ev1_op (x := .str "LogFault") (y := .str "LogFault") ((ev_told (T := T) (i := 1) (R := fun _ => False) (Xb := (· = He.ga K "LogFault")) rfl (fun EL => ?_) fun C e => by subst e; exact hL).imp fun d hd => ?_) ev_str od_neX) (by simp))).imp fun b eb => ⟨fun z => (by rw [eb] at z; cases z), fun _ => ea⟩
  · refine ev_callI (i := p) (ea1_cons (ev_var (d := bD p) rfl) ea_nil) trivial (fun d hd => ?_) fun C hC => ?_
    · have hd' : (match rr p with | some p => Res.ret (recD p) | none => .exc (He.ga K "LogFault")) = .ret d := hd
      rw [hno] at hd'
      cases hd'
    · have hd' : (match rr p with | some p => Res.ret (recD p) | none => .exc (He.ga K "LogFault")) = .exc C := hC
      rw [hno] at hd'
      injection hd' with hd'
      exact hd'.symm
  · rcases hd with z | ⟨_, e⟩
    · exact z.elim
    · exact e
end
end K10


namespace K10
open PySem PySem.Spec PyProof.Rows L2 Ts
abbrev FD (K : PySem.W.Frag) (x : Str) (st : Stmt) (f : Addr) (fd : FuncData) : Prop := FunD K x x (defArgs st) (defBody st) (defScope st) [] [] f fd
section
variable {P : Program} {w : World} {K : PySem.W.Frag} {mg : Str → Option Value} {base : Heap} {f : Addr} {fd : FuncData} {T : Tb}
theorem cal_fixed (t : Txt K mg) (F : FD K "fixed" s_fixed f fd) (M : mg "fixed" = some (.ref f)) : Cal P w K mg base 1 "fixed" (spFx K) :=
  cal_of (fn_I F sc_fixed (fun _ => rfl) (fun cdv A outer s H E hr => der_fixed t hr) (fun W i h => fixed_xs i h)) M F.kp (F.bindsN fun _ _ _ _ _ _ us hl => match us, hl with | [_, _], _ => rfl)
theorem cal_number_from (t : Txt K mg) (F : FD K "number_from" s_number_from f fd) (M : mg "number_from" = some (.ref f)) : Cal P w K mg base 1 "number_from" (spNu K) :=
  cal_of (fn_I F sc_number_from (fun _ => rfl) (fun cdv A outer s H E hr => der_number_from t hr) (fun W i _ => number_xs i)) M F.kp (F.bindsN fun _ _ _ _ _ _ us hl => match us, hl with | [_], _ => rfl)
theorem cal_natural (t : Txt K mg) (F : FD K "natural" s_natural f fd) (M : mg "natural" = some (.ref f)) : Cal P w K mg base 1 "natural" (spNa K) :=
  cal_of (fn_I F sc_natural (fun _ => rfl) (fun cdv A outer s H E hr => der_natural t hr) (fun W i h => natural_xs i h)) M F.kp (F.bindsN fun _ _ _ _ _ _ us hl => match us, hl with | [_], _ => rfl)
theorem cal_natural_from (t : Txt K mg) (F : FD K "natural_from" s_natural_from f fd) (M : mg "natural_from" = some (.ref f)) : CalN P w K mg base 1 "natural_from" (spNf K) :=
  ⟨⟨f, fd, _, fn_I F sc_natural_from (fun _ => rfl) (fun cdv A outer s H E hr => der_natural_from t hr) (fun W i h => nfrom_xs i h), M, F.kp, F.bindsN fun _ _ _ _ _ _ us hl => match us, hl with | [_, _], _ => rfl⟩⟩
theorem cal__law_dice (t : Txt K mg) (F : FD K "_law_dice" s__law_dice f fd) (M : mg "_law_dice" = some (.ref f)) : Cal P w K mg base 1 "_law_dice" (spDice K) :=
  cal_of (fn_D F sc__law_dice (fun ds ⟨_, e⟩ => by rw [e]; rfl) (fun cdv A outer s H E hr => der__law_dice t hr) (fun W ds h => dice_xs h)) M F.kp (F.bindsN fun _ _ _ _ _ _ us hl => match us, hl with | [_], _ => rfl)
theorem cal__law_roll (t : Txt K mg) (F : FD K "_law_roll" s__law_roll f fd) (M : mg "_law_roll" = some (.ref f)) : Cal P w K mg base 1 "_law_roll" (spRoll K T) :=
  cal_of (fn_Q F sc__law_roll (fun ds ⟨_, e, _⟩ => by rw [e]; rfl) (fun cdv A outer s H E hr => der__law_roll t hr) (fun W ds h => roll_xs h)) M F.kp (F.bindsN fun _ _ _ _ _ _ us hl => match us, hl with | [_, _], _ => rfl)
theorem cal__law_sum (t : Txt K mg) (F : FD K "_law_sum" s__law_sum f fd) (M : mg "_law_sum" = some (.ref f)) : Cal P w K mg base 1 "_law_sum" (spCs K) :=
  cal_of (fn_I F sc__law_sum (fun _ => rfl) (fun cdv A outer s H E hr => der__law_sum t hr) (fun W i _ => lsum_xs i)) M F.kp (F.bindsN fun _ _ _ _ _ _ us hl => match us, hl with | [_], _ => rfl)
theorem cal__law_natural (t : Txt K mg) (F : FD K "_law_natural" s__law_natural f fd) (M : mg "_law_natural" = some (.ref f)) : Cal P w K mg base 1 "_law_natural" (spNa K) :=
  cal_of (fn_I F sc__law_natural (fun _ => rfl) (fun cdv A outer s H E hr => der__law_natural t hr) (fun W i h => lnat_xs i h)) M F.kp (F.bindsN fun _ _ _ _ _ _ us hl => match us, hl with | [_], _ => rfl)
theorem cal__law_sums (t : Txt K mg) (F : FD K "_law_sums" s__law_sums f fd) (M : mg "_law_sums" = some (.ref f)) : Cal P w K mg base 1 "_law_sums" (spCs K) :=
  cal_of (fn_I F sc__law_sums (fun _ => rfl) (fun cdv A outer s H E hr => der__law_sums t hr) (fun W i _ => lsums_xs i)) M F.kp (F.bindsN fun _ _ _ _ _ _ us hl => match us, hl with | [_], _ => rfl)
theorem cal__law_number (t : Txt K mg) (F : FD K "_law_number" s__law_number f fd) (M : mg "_law_number" = some (.ref f)) : Cal P w K mg base 1 "_law_number" (spLn K) :=
  cal_of (fn_I F sc__law_number (fun _ => rfl) (fun cdv A outer s H E hr => der__law_number t hr) (fun W i h => lnum_xs i h)) M F.kp (F.bindsN fun _ _ _ _ _ _ us hl => match us, hl with | [_, _], _ => rfl)
theorem cal_checksum (t : Txt K mg) (c_fixed : Cal P w K mg base 1 "fixed" (spFx K)) (F : FD K "checksum" s_checksum f fd) (M : mg "checksum" = some (.ref f)) : Cal P w K mg base 2 "checksum" (spCs K) :=
  cal_of (fn_I F sc_checksum (fun _ => rfl) (fun cdv A outer s H E hr => der_checksum t c_fixed hr) (fun W i _ => checksum_xs i)) M F.kp (F.bindsN fun _ _ _ _ _ _ us hl => match us, hl with | [_], _ => rfl)
theorem cal_read_record (t : Txt K mg) (hR : PySem.W.exmOne K (.ref (He.ga K "RecordFault")) (.ref (He.ga K "RecordFault")) = some true) (c_natural_from : CalN P w K mg base 1 "natural_from" (spNf K)) (F : FD K "read_record" s_read_record f fd) (M : mg "read_record" = some (.ref f)) : Cal P w K mg base 2 "read_record" (spRr K) :=
  cal_of (fn_I F sc_read_record (fun _ => rfl) (fun cdv A outer s H E hr => der_read_record t c_natural_from hr) (fun W i _ => rrec_xs hR i)) M F.kp (F.bindsN fun _ _ _ _ _ _ us hl => match us, hl with | [_], _ => rfl)
theorem cal__law_rounds (t : Txt K mg) (c__law_dice : Cal P w K mg base 1 "_law_dice" (spDice K)) (F : FD K "_law_rounds" s__law_rounds f fd) (M : mg "_law_rounds" = some (.ref f)) : Cal P w K mg base 2 "_law_rounds" (spRounds K) :=
  cal_of (fn_H (t := fun W => t__law_rounds K W (spDice K)) F sc__law_rounds (fun vs H Q E ⟨_, _, e, _⟩ => by rw [e]; rfl) (fun cdv A outer s H E _ hr => der__law_rounds t c__law_dice hr) (fun W vs H Q E h => rounds_pure (W := W) h)) M F.kp (F.bindsN fun _ _ _ _ _ _ us hl => match us, hl with | [_, _], _ => rfl)
theorem cal__law_group (t : Txt K mg) (c__law_roll : Cal P w K mg base 1 "_law_roll" (spRoll K T)) (F : FD K "_law_group" s__law_group f fd) (M : mg "_law_group" = some (.ref f)) : Cal P w K mg base 2 "_law_group" (spGr K T) :=
  cal_of (fn_Q F sc__law_group (fun ds e => by rw [show ds = [] from e]; rfl) (fun cdv A outer s H E hr => der__law_group t c__law_roll hr) (fun W ds h => group_xs h)) M F.kp (F.bindsN fun _ _ _ _ _ _ us hl => match us, hl with | [_], _ => rfl)
theorem cal__law_frame (t : Txt K mg) (c__law_sum : Cal P w K mg base 1 "_law_sum" (spCs K)) (F : FD K "_law_frame" s__law_frame f fd) (M : mg "_law_frame" = some (.ref f)) : Cal P w K mg base 2 "_law_frame" (spFr K) :=
  cal_of (fn_I F sc__law_frame (fun _ => rfl) (fun cdv A outer s H E hr => der__law_frame t c__law_sum hr) (fun W i h => lframe_xs i h)) M F.kp (F.bindsN fun _ _ _ _ _ _ us hl => match us, hl with | [_], _ => rfl)
theorem cal__law_read (t : Txt K mg) (c__law_number : Cal P w K mg base 1 "_law_number" (spLn K)) (c__law_sums : Cal P w K mg base 1 "_law_sums" (spCs K)) (F : FD K "_law_read" s__law_read f fd) (M : mg "_law_read" = some (.ref f)) : Cal P w K mg base 2 "_law_read" (spRg K) :=
  cal_of (fn_I F sc__law_read (fun _ => rfl) (fun cdv A outer s H E hr => der__law_read t c__law_number c__law_sums hr) (fun W i h => lread_xs i h)) M F.kp (F.bindsN fun _ _ _ _ _ _ us hl => match us, hl with | [_], _ => rfl)
theorem cal_frame (t : Txt K mg) (c_checksum : Cal P w K mg base 2 "checksum" (spCs K)) (c_fixed : Cal P w K mg base 1 "fixed" (spFx K)) (F : FD K "frame" s_frame f fd) (M : mg "frame" = some (.ref f)) : Cal P w K mg base 3 "frame" (spFr K) :=
  cal_of (fn_I F sc_frame (fun _ => rfl) (fun cdv A outer s H E hr => der_frame t c_checksum c_fixed hr) (fun W i h => frame_xs i h)) M F.kp (F.bindsN fun _ _ _ _ _ _ us hl => match us, hl with | [_], _ => rfl)
theorem cal_read_frames (t : Txt K mg) (c_checksum : Cal P w K mg base 2 "checksum" (spCs K)) (c_number_from : Cal P w K mg base 1 "number_from" (spNu K)) (F : FD K "read_frames" s_read_frames f fd) (M : mg "read_frames" = some (.ref f)) : Cal P w K mg base 3 "read_frames" (spRf K) :=
  cal_of (fn_I F sc_read_frames (fun _ => rfl) (fun cdv A outer s H E hr => der_read_frames t c_checksum c_number_from hr) (fun W i h => rframes_xs i h)) M F.kp (F.bindsN fun _ _ _ _ _ _ us hl => match us, hl with | [_], _ => rfl)
theorem cal__law_bytes (t : Txt K mg) (c__law_frame : Cal P w K mg base 2 "_law_frame" (spFr K)) (c__law_natural : Cal P w K mg base 1 "_law_natural" (spNa K)) (F : FD K "_law_bytes" s__law_bytes f fd) (M : mg "_law_bytes" = some (.ref f)) : Cal P w K mg base 3 "_law_bytes" (spLb K) :=
  cal_of (fn_I F sc__law_bytes (fun _ => rfl) (fun cdv A outer s H E hr => der__law_bytes t c__law_frame c__law_natural hr) (fun W i h => lb_xs i h)) M F.kp (F.bindsN fun _ _ _ _ _ _ us hl => match us, hl with | [_], _ => rfl)
theorem cal_image_record (t : Txt K mg) (c_frame : Cal P w K mg base 3 "frame" (spFr K)) (c_natural : Cal P w K mg base 1 "natural" (spNa K)) (F : FD K "image_record" s_image_record f fd) (M : mg "image_record" = some (.ref f)) : Cal P w K mg base 4 "image_record" (spIr K) :=
  cal_of (fn_I F sc_image_record (fun _ => rfl) (fun cdv A outer s H E hr => der_image_record t c_frame c_natural hr) (fun W i h => image_xs i h)) M F.kp (F.bindsN fun _ _ _ _ _ _ us hl => match us, hl with | [_, _], _ => rfl)
theorem cal_end_record (t : Txt K mg) (c_frame : Cal P w K mg base 3 "frame" (spFr K)) (c_natural : Cal P w K mg base 1 "natural" (spNa K)) (F : FD K "end_record" s_end_record f fd) (M : mg "end_record" = some (.ref f)) : Cal P w K mg base 4 "end_record" (spEr K) :=
  cal_of (fn_I F sc_end_record (fun _ => rfl) (fun cdv A outer s H E hr => der_end_record t c_frame c_natural hr) (fun W i h => end_xs i h)) M F.kp (F.bindsN fun _ _ _ _ _ _ us hl => match us, hl with | [_], _ => rfl)
theorem cal_read_groups (t : Txt K mg) (hL : PySem.W.exmOne K (.ref (He.ga K "LogFault")) (.ref (He.ga K "LogFault")) = some true) (c_read_frames : Cal P w K mg base 3 "read_frames" (spRf K)) (c_read_record : Cal P w K mg base 2 "read_record" (spRr K)) (F : FD K "read_groups" s_read_groups f fd) (M : mg "read_groups" = some (.ref f)) : Cal P w K mg base 4 "read_groups" (spRg K) :=
  cal_of (fn_I F sc_read_groups (fun _ => rfl) (fun cdv A outer s H E hr => der_read_groups t c_read_frames c_read_record hr) (fun W i h => rgroups_xs hL i h)) M F.kp (F.bindsN fun _ _ _ _ _ _ us hl => match us, hl with | [_], _ => rfl)
theorem cal_group_bytes (t : Txt K mg) (c_end_record : Cal P w K mg base 4 "end_record" (spEr K)) (c_image_record : Cal P w K mg base 4 "image_record" (spIr K)) (F : FD K "group_bytes" s_group_bytes f fd) (M : mg "group_bytes" = some (.ref f)) : Cal P w K mg base 5 "group_bytes" (spGb K) :=
  cal_of (fn_I F sc_group_bytes (fun _ => rfl) (fun cdv A outer s H E hr => der_group_bytes t c_end_record c_image_record hr) (fun W i h => gb_xs i h)) M F.kp (F.bindsN fun _ _ _ _ _ _ us hl => match us, hl with | [_, _], _ => rfl)
end
/-! ### the head -/
def dF (x : Str) (s : Stmt) : He.DefD := ⟨(x, none), x, x, defArgs s, defBody s, defScope s, [], []⟩
def fn : List He.DefD := [dF "fixed" s_fixed, dF "number_from" s_number_from, dF "natural" s_natural, dF "natural_from" s_natural_from, dF "_law_dice" s__law_dice, dF "_law_roll" s__law_roll, dF "_law_sum" s__law_sum, dF "_law_natural" s__law_natural, dF "_law_sums" s__law_sums, dF "_law_number" s__law_number, dF "checksum" s_checksum, dF "read_record" s_read_record, dF "_law_rounds" s__law_rounds, dF "_law_group" s__law_group, dF "_law_frame" s__law_frame, dF "_law_read" s__law_read, dF "frame" s_frame, dF "read_frames" s_read_frames, dF "_law_bytes" s__law_bytes, dF "image_record" s_image_record, dF "end_record" s_end_record, dF "read_groups" s_read_groups, dF "group_bytes" s_group_bytes, dF "_law_told" s__law_told, dF "law" s_law]
def fa : List He.Fa := [.glo "fixed", .glo "number_from", .glo "natural", .glo "natural_from", .glo "_law_dice", .glo "_law_roll", .glo "_law_sum", .glo "_law_natural", .glo "_law_sums", .glo "_law_number", .glo "checksum", .glo "read_record", .glo "_law_rounds", .glo "_law_group", .glo "_law_frame", .glo "_law_read", .glo "frame", .glo "read_frames", .glo "_law_bytes", .glo "image_record", .glo "end_record", .glo "read_groups", .glo "group_bytes", .glo "_law_told", .glo "law", .glo "LogFault", .glo "RecordFault", .exc "LogFault", .exc "RecordFault", .exm "LogFault" "LogFault" true, .exm "RecordFault" "RecordFault" true, .free "abs", .free "enumerate", .free "int", .free "len", .free "list", .free "range", .free "sum", .free "tuple", .int "END" 2, .int "FRAME_HEAD" 4, .int "FRAME_TAIL" 4, .int "IMAGE" 1, .int "WORD" 256]
def tf : List He.Defn := [("law", none)]
abbrev R : PySem.W.OpenRow := PySem.W.OpenLaw.row PySem.Challenge.rw_tablestack_k10_groups_in_the_log
abbrev hk : PySem.W.Hook := He.hookX 5 fa fn [] tf (fun _ => true)
def ob (s : PySem.W.SharedT) : He.AlX := He.obsX 5 fa fn [] tf (fun _ => true) (HandSHeadRun.getT s)
theorem ob_eq (s : PySem.W.SharedT) : ob s = hk.obs s.abs := He.obsX_eq (HandSHeadRun.getT_eq s)
abbrev loose : List Str := ["TableError", "RecordFault", "LogFault", "WORD", "fixed", "number_from", "natural", "natural_from", "checksum", "IMAGE", "END", "FRAME_HEAD", "FRAME_TAIL", "frame", "image_record", "end_record", "read_frames", "read_record", "read_groups", "group_bytes", "_law_dice", "_law_roll", "_law_rounds", "_law_told", "_law_group", "_law_sum", "_law_natural", "_law_frame", "_law_bytes", "_law_sums", "_law_number", "_law_read"]
theorem run (w : World) : HandSHeadRun.RunEq R (PySem.W.view R.prog [36]) hk ob 6000 loose w := by
  intro os
  kernel_rfl
theorem law_ok {P : Program} {w : World} {K : PySem.W.Frag} {mg : Str → Option Value} {base : Heap} (t : Txt K mg) (hx0 : PySem.W.exmOne K (.ref (He.ga K "LogFault")) (.ref (He.ga K "LogFault")) = some true) (hx1 : PySem.W.exmOne K (.ref (He.ga K "RecordFault")) (.ref (He.ga K "RecordFault")) = some true)
    {fd fd_told : FuncData} (F : FD K "law" s_law (He.fAd K ("law", none)) fd) (F_told : FD K "_law_told" s__law_told (He.ga K "_law_told") fd_told) (M_told : mg "_law_told" = some (.ref (He.ga K "_law_told")))
    (TB : LamX.TabB base mg (He.cT K ("law", none)).1 (He.cT K ("law", none)).2) (T : Tb) (eT : T = [((He.cT K ("law", none)).2, lamQ_law)])
    (c__law_bytes : Cal P w K mg base 3 "_law_bytes" (spLb K))
    (c__law_frame : Cal P w K mg base 2 "_law_frame" (spFr K))
    (c__law_group : Cal P w K mg base 2 "_law_group" (spGr K T))
    (c__law_natural : Cal P w K mg base 1 "_law_natural" (spNa K))
    (c__law_read : Cal P w K mg base 2 "_law_read" (spRg K))
    (c__law_roll : Cal P w K mg base 1 "_law_roll" (spRoll K T))
    (c__law_rounds : Cal P w K mg base 2 "_law_rounds" (spRounds K))
    (c_end_record : Cal P w K mg base 4 "end_record" (spEr K))
    (c_frame : Cal P w K mg base 3 "frame" (spFr K))
    (c_group_bytes : Cal P w K mg base 5 "group_bytes" (spGb K))
    (c_image_record : Cal P w K mg base 4 "image_record" (spIr K))
    (c_read_frames : Cal P w K mg base 3 "read_frames" (spRf K))
    (c_read_groups : Cal P w K mg base 4 "read_groups" (spRg K))
    (c_read_record : Cal P w K mg base 2 "read_record" (spRr K)) :
    FnOk P w K mg base (L2.CX P w) 8 (He.fAd K ("law", none)) fd ["script"] (spLaw K [(He.cT K ("law", none)).2]) := by
  have B_told : Binds K fd_told ["what"] [] := F_told.bindsN fun _ _ _ _ _ _ us hl => match us, hl with | [_], _ => rfl
  refine fn_H (t := fun W => t_law K W T (spLb K) (spFr K) (spGr K T) (spNa K) (spRg K) (spRoll K T) (spRounds K) (spEr K) (spFr K) (spGb K) (spIr K) (spRf K) (spRg K) (spRr K)) F sc_law (fun vs H Q E ⟨_, _, e, _⟩ => by rw [e]; rfl) (fun cdv A outer s H E e hr => der_law t c__law_bytes c__law_frame c__law_group c__law_natural c__law_read c__law_roll c__law_rounds c_end_record c_frame c_group_bytes c_image_record c_read_frames c_read_groups c_read_record TB (by rw [eT]; exact List.mem_cons_self) (fun p hp _ => by rw [eT] at hp; rw [List.mem_singleton.mp hp]) F_told M_told B_told (e.symm.trans (code_of F)) hr) fun W vs H Q E hsp => ?_
  have hTc : ∀ p ∈ T, p.1 ∈ [(He.cT K ("law", none)).2] := fun p hp => by rw [eT] at hp; rw [List.mem_singleton.mp hp]; exact List.mem_cons_self
  exact law_frame2 (T := T) (n := 12) hsp hTc rfl body_xs (end_law hx0)
theorem facts {w : World} {h : Heap} {mg : Str → Option Value} {f : Addr} {K : PySem.W.Frag} (X : K.In h) (G : h.Ns mainGlobals mg) (hfa : mg ("law" : Str) = some (.ref f)) (c : He.SaysX fa fn [] tf (fun _ => true) w h K) :
    LamX.LawAtS PySem.Challenge.rw_tablestack_k10_groups_in_the_log w K (L2.CX (PySem.Challenge.rw_tablestack_k10_groups_in_the_log).prog w) 8 63 "script" mg f h := by
  have d := c.t.d
  have glo : ∀ {x : Str}, He.Fa.glo x ∈ fa → mg x = some (.ref (He.ga K x)) := fun h => He.glo_ok X G (d.facts h)
  have fre : ∀ {x : Str}, He.Fa.free x ∈ fa → mg x = none := fun h => He.free_ok X G (d.facts h)
  obtain ⟨fd_fixed, F_fixed⟩ := d.defs (d := dF "fixed" s_fixed) (by simp [fn])
  obtain ⟨fd_number_from, F_number_from⟩ := d.defs (d := dF "number_from" s_number_from) (by simp [fn])
  obtain ⟨fd_natural, F_natural⟩ := d.defs (d := dF "natural" s_natural) (by simp [fn])
  obtain ⟨fd_natural_from, F_natural_from⟩ := d.defs (d := dF "natural_from" s_natural_from) (by simp [fn])
  obtain ⟨fd__law_dice, F__law_dice⟩ := d.defs (d := dF "_law_dice" s__law_dice) (by simp [fn])
  obtain ⟨fd__law_roll, F__law_roll⟩ := d.defs (d := dF "_law_roll" s__law_roll) (by simp [fn])
  obtain ⟨fd__law_sum, F__law_sum⟩ := d.defs (d := dF "_law_sum" s__law_sum) (by simp [fn])
  obtain ⟨fd__law_natural, F__law_natural⟩ := d.defs (d := dF "_law_natural" s__law_natural) (by simp [fn])
  obtain ⟨fd__law_sums, F__law_sums⟩ := d.defs (d := dF "_law_sums" s__law_sums) (by simp [fn])
  obtain ⟨fd__law_number, F__law_number⟩ := d.defs (d := dF "_law_number" s__law_number) (by simp [fn])
  obtain ⟨fd_checksum, F_checksum⟩ := d.defs (d := dF "checksum" s_checksum) (by simp [fn])
  obtain ⟨fd_read_record, F_read_record⟩ := d.defs (d := dF "read_record" s_read_record) (by simp [fn])
  obtain ⟨fd__law_rounds, F__law_rounds⟩ := d.defs (d := dF "_law_rounds" s__law_rounds) (by simp [fn])
  obtain ⟨fd__law_group, F__law_group⟩ := d.defs (d := dF "_law_group" s__law_group) (by simp [fn])
  obtain ⟨fd__law_frame, F__law_frame⟩ := d.defs (d := dF "_law_frame" s__law_frame) (by simp [fn])
  obtain ⟨fd__law_read, F__law_read⟩ := d.defs (d := dF "_law_read" s__law_read) (by simp [fn])
  obtain ⟨fd_frame, F_frame⟩ := d.defs (d := dF "frame" s_frame) (by simp [fn])
  obtain ⟨fd_read_frames, F_read_frames⟩ := d.defs (d := dF "read_frames" s_read_frames) (by simp [fn])
  obtain ⟨fd__law_bytes, F__law_bytes⟩ := d.defs (d := dF "_law_bytes" s__law_bytes) (by simp [fn])
  obtain ⟨fd_image_record, F_image_record⟩ := d.defs (d := dF "image_record" s_image_record) (by simp [fn])
  obtain ⟨fd_end_record, F_end_record⟩ := d.defs (d := dF "end_record" s_end_record) (by simp [fn])
  obtain ⟨fd_read_groups, F_read_groups⟩ := d.defs (d := dF "read_groups" s_read_groups) (by simp [fn])
  obtain ⟨fd_group_bytes, F_group_bytes⟩ := d.defs (d := dF "group_bytes" s_group_bytes) (by simp [fn])
  obtain ⟨fd__law_told, F__law_told⟩ := d.defs (d := dF "_law_told" s__law_told) (by simp [fn])
  obtain ⟨fd_law, F_law⟩ := d.defs (d := dF "law" s_law) (by simp [fn])
  have e_LogFault := He.exc_ok (d.facts (f := .exc "LogFault") (by simp [fa]))
  have e_RecordFault := He.exc_ok (d.facts (f := .exc "RecordFault") (by simp [fa]))
  have t : Txt K mg := { c_END := He.int_ok X G (d.facts (by simp [fa])), c_FRAME_HEAD := He.int_ok X G (d.facts (by simp [fa])), c_FRAME_TAIL := He.int_ok X G (d.facts (by simp [fa])), c_IMAGE := He.int_ok X G (d.facts (by simp [fa])), c_WORD := He.int_ok X G (d.facts (by simp [fa])), x_LogFault := e_LogFault.1, g_LogFault := glo (by simp [fa]), k_LogFault := e_LogFault.2.1, b_LogFault := e_LogFault.2.2.1, t_LogFault := e_LogFault.2.2.2, x_RecordFault := e_RecordFault.1, g_RecordFault := glo (by simp [fa]), k_RecordFault := e_RecordFault.2.1, b_RecordFault := e_RecordFault.2.2.1, t_RecordFault := e_RecordFault.2.2.2, n_abs := fre (by simp [fa]), n_enumerate := fre (by simp [fa]), n_int := fre (by simp [fa]), n_len := fre (by simp [fa]), n_list := fre (by simp [fa]), n_range := fre (by simp [fa]), n_sum := fre (by simp [fa]), n_tuple := fre (by simp [fa]) }
  have hx0 := He.exm_ok (d.facts (f := .exm "LogFault" "LogFault" true) (by simp [fa]))
  have hx1 := He.exm_ok (d.facts (f := .exm "RecordFault" "RecordFault" true) (by simp [fa]))
  have e := hfa.symm.trans (glo (x := "law") (by simp [fa]))
  have e' : f = He.ga K "law" := by
    injection e with e
    injection e
  subst e'
  have b := FunD.bindsA (ps := ["script"]) F_law fun _ _ _ _ _ _ us hl => match us, hl with | [_], _ => rfl
  refine ⟨fd_law, [He.cT K ("law", none)], spLaw K [(He.cT K ("law", none)).2], fun p hp => ?_, fun p hp => ?_, fun p hp => ?_, fun s u => b s [u] rfl, fun H a ns _ _ hT hS => ⟨a, ns, rfl, hS, fun p hp => ?_, fun H' => rfl⟩, fun base Kb Gb hTB => ?_⟩
  · rw [List.mem_singleton.mp hp]
    exact c.empty _ (by simp [tf])
  · rw [List.mem_singleton.mp hp]
    exact c.out _ (by simp [tf])
  · rw [List.mem_singleton.mp hp]
    exact PySem.W.codeHd_of_K X (c.hd _ (by simp [tf]))
  · rw [List.mem_singleton.mp hp]
    exact hT _ List.mem_cons_self
  · have eT : ∃ T : Tb, T = [((He.cT K ("law", none)).2, lamQ_law)] := ⟨_, rfl⟩
    obtain ⟨T, eT⟩ := eT
    have k_fixed := cal_fixed (P := (PySem.Challenge.rw_tablestack_k10_groups_in_the_log).prog) (w := w) (base := base) t F_fixed (glo (by simp [fa]))
    have k_number_from := cal_number_from (P := (PySem.Challenge.rw_tablestack_k10_groups_in_the_log).prog) (w := w) (base := base) t F_number_from (glo (by simp [fa]))
    have k_natural := cal_natural (P := (PySem.Challenge.rw_tablestack_k10_groups_in_the_log).prog) (w := w) (base := base) t F_natural (glo (by simp [fa]))
    have k_natural_from := cal_natural_from (P := (PySem.Challenge.rw_tablestack_k10_groups_in_the_log).prog) (w := w) (base := base) t F_natural_from (glo (by simp [fa]))
    have k__law_dice := cal__law_dice (P := (PySem.Challenge.rw_tablestack_k10_groups_in_the_log).prog) (w := w) (base := base) t F__law_dice (glo (by simp [fa]))
    have k__law_roll := cal__law_roll (P := (PySem.Challenge.rw_tablestack_k10_groups_in_the_log).prog) (w := w) (base := base) (T := T) t F__law_roll (glo (by simp [fa]))
    have k__law_sum := cal__law_sum (P := (PySem.Challenge.rw_tablestack_k10_groups_in_the_log).prog) (w := w) (base := base) t F__law_sum (glo (by simp [fa]))
    have k__law_natural := cal__law_natural (P := (PySem.Challenge.rw_tablestack_k10_groups_in_the_log).prog) (w := w) (base := base) t F__law_natural (glo (by simp [fa]))
    have k__law_sums := cal__law_sums (P := (PySem.Challenge.rw_tablestack_k10_groups_in_the_log).prog) (w := w) (base := base) t F__law_sums (glo (by simp [fa]))
    have k__law_number := cal__law_number (P := (PySem.Challenge.rw_tablestack_k10_groups_in_the_log).prog) (w := w) (base := base) t F__law_number (glo (by simp [fa]))
    have k_checksum := cal_checksum (P := (PySem.Challenge.rw_tablestack_k10_groups_in_the_log).prog) (w := w) (base := base) t k_fixed F_checksum (glo (by simp [fa]))
    have k_read_record := cal_read_record (P := (PySem.Challenge.rw_tablestack_k10_groups_in_the_log).prog) (w := w) (base := base) t hx1 k_natural_from F_read_record (glo (by simp [fa]))
    have k__law_rounds := cal__law_rounds (P := (PySem.Challenge.rw_tablestack_k10_groups_in_the_log).prog) (w := w) (base := base) t k__law_dice F__law_rounds (glo (by simp [fa]))
    have k__law_group := cal__law_group (P := (PySem.Challenge.rw_tablestack_k10_groups_in_the_log).prog) (w := w) (base := base) (T := T) t k__law_roll F__law_group (glo (by simp [fa]))
    have k__law_frame := cal__law_frame (P := (PySem.Challenge.rw_tablestack_k10_groups_in_the_log).prog) (w := w) (base := base) t k__law_sum F__law_frame (glo (by simp [fa]))
    have k__law_read := cal__law_read (P := (PySem.Challenge.rw_tablestack_k10_groups_in_the_log).prog) (w := w) (base := base) t k__law_number k__law_sums F__law_read (glo (by simp [fa]))
    have k_frame := cal_frame (P := (PySem.Challenge.rw_tablestack_k10_groups_in_the_log).prog) (w := w) (base := base) t k_checksum k_fixed F_frame (glo (by simp [fa]))
    have k_read_frames := cal_read_frames (P := (PySem.Challenge.rw_tablestack_k10_groups_in_the_log).prog) (w := w) (base := base) t k_checksum k_number_from F_read_frames (glo (by simp [fa]))
    have k__law_bytes := cal__law_bytes (P := (PySem.Challenge.rw_tablestack_k10_groups_in_the_log).prog) (w := w) (base := base) t k__law_frame k__law_natural F__law_bytes (glo (by simp [fa]))
    have k_image_record := cal_image_record (P := (PySem.Challenge.rw_tablestack_k10_groups_in_the_log).prog) (w := w) (base := base) t k_frame k_natural F_image_record (glo (by simp [fa]))
    have k_end_record := cal_end_record (P := (PySem.Challenge.rw_tablestack_k10_groups_in_the_log).prog) (w := w) (base := base) t k_frame k_natural F_end_record (glo (by simp [fa]))
    have k_read_groups := cal_read_groups (P := (PySem.Challenge.rw_tablestack_k10_groups_in_the_log).prog) (w := w) (base := base) t hx0 k_read_frames k_read_record F_read_groups (glo (by simp [fa]))
    have k_group_bytes := cal_group_bytes (P := (PySem.Challenge.rw_tablestack_k10_groups_in_the_log).prog) (w := w) (base := base) t k_end_record k_image_record F_group_bytes (glo (by simp [fa]))
    exact law_ok t hx0 hx1 F_law F__law_told (glo (by simp [fa])) (hTB _ List.mem_cons_self) T eT k__law_bytes k__law_frame k__law_group k__law_natural k__law_read k__law_roll k__law_rounds k_end_record k_frame k_group_bytes k_image_record k_read_frames k_read_groups k_read_record
end K10
open PySem PySem.W PySem.Calls PyProof.Rows
theorem PySem.Challenge.cw_tablestack_k10_groups_in_the_log_holds : PySem.Challenge.rw_tablestack_k10_groups_in_the_log.Holds := by
  w_on; o_law
  refine HandSHeadRun.head_any (r := OpenLaw.row PySem.Challenge.rw_tablestack_k10_groups_in_the_log) (q := view (OpenLaw.row PySem.Challenge.rw_tablestack_k10_groups_in_the_log).prog [36]) (H := K10.hk) (ob := K10.ob) (M := 6000) (loose := K10.loose) (d := HandSHeadRun.topDef (OpenLaw.row PySem.Challenge.rw_tablestack_k10_groups_in_the_log).prog 36) (kwd := []) K10.ob_eq
    (by kernel_rfl) (fun s => by kernel_rfl) K10.run (by kernel_rfl) (by kernel_rfl) (by kernel_rfl) (by rfl) (by first | assumption | decide +kernel) (by decide +kernel) ⟨rfl, rfl, rfl, rfl, rfl, by decide +kernel⟩ ?hw ?hc
  case hw => w_witness2
  case hc =>
    refine LamX.walk_ofTsE (l := PySem.Challenge.rw_tablestack_k10_groups_in_the_log) (n := 63) (k := 8) (x := "script") (CX := fun w => L2.CX (PySem.Challenge.rw_tablestack_k10_groups_in_the_log).prog w) rfl (by decide) (by kernel_rfl) ⟨rfl, by decide, by decide⟩ ?F (fun w H s e s' z => ?X)
    case F =>
      intro w mg fa h Y G hmg0
      obtain ⟨K, KX, c⟩ := Y
      have hmg : mg ("law" : PySem.Str) = some (.ref fa) := by
        have e : (HandSHeadRun.topDef (OpenLaw.row PySem.Challenge.rw_tablestack_k10_groups_in_the_log).prog 36).name = ("law" : PySem.Str) := by kernel_rfl
        rw [← e]
        exact hmg0
      exact ⟨K, KX, K10.facts KX G hmg c⟩
    case X =>
      obtain ⟨_, _, _, _, _, _, _, _, _, _, _, _, _, _, _, _, z⟩ := z
