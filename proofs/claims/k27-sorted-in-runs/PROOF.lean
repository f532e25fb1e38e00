import PyProof.Rows.All
import Wide.All
import OpenK.AllK
import Wide.FinOn
import KE.KStateDown
import HandS.ForMost
import HandS.Exc
import HandS.ExcOwn
import HandS.TryOnly
import HandS.TryMany
import HandS.More
import HandS.Style
import HandS.TupAny
import HandS.TupMul
import HandS.TupLe
import HandS.Wide
import HandS.Walk
import HandS.Defaults
import HandS.WordsExc
import HandS.Lambda
import HandS.EndTab
import HandS.HeadWalk
import HandS.Head0
import HandS.Head1
import HandS.Head2
import HandS.HeadHook1
import HandS.HeadHook2
import HandS.HeadHook3
import HandS.HeadHook4
import HandS.Zip
import KE.GoesMore
import KE.GoesEnum
import PyProof.ListRange
import PySem.Challenge.RW_tablestack_k27_sorted_in_runs
set_option Elab.async false
set_option linter.all false
set_option autoImplicit false
set_option maxRecDepth 100000
set_option maxHeartbeats 0
/-! A program logic over data, above the readings of the hand layer: values are told as data (D), slots as an environment of data (En); heaps stay within this file. -/
namespace Ts
open PySem L2

/-! ### data -/
inductive D where
  | non | bl (b : Bool) | int (i : Int) | str (x : Str) | lst (xs : List D) | tup (xs : List D) | obj (C : Addr) (fs : List (Str × D))

/-- all but tables of code objects stay -/
def Exx (H H' : Hp) : Prop := ∀ a o, H a = some o → (∀ ps, o ≠ HO.tbl ps) → H' a = some o
theorem Exx.refl (H : Hp) : Exx H H := fun _ _ h _ => h
theorem Exx.trans {H H1 H2 : Hp} (a : Exx H H1) (b : Exx H1 H2) : Exx H H2 := fun x o h n => b x o (a x o h n) n
theorem Exx.l {H H' : Hp} (e : Exx H H') {a : Addr} {xs : List V} (h : H a = some (.lst xs)) : H' a = some (.lst xs) := e a _ h (fun _ z => nomatch z)
theorem Exx.i {H H' : Hp} (e : Exx H H') {a C dx : Addr} {vs : List (Str × V)} (h : H a = some (.ins C dx vs)) : H' a = some (.ins C dx vs) := e a _ h (fun _ z => nomatch z)
abbrev Tb : Type := List (Addr × Str)
abbrev Qd : Type := Option (Addr × Tb)

mutual
/-- v stands for d, over what is frozen: G -/
inductive Rp (K : PySem.W.Frag) (G : Hp) : V → D → Prop
  | non : Rp K G .non .non
  | bl (b : Bool) : Rp K G (.bl b) (.bl b)
  | int (i : Int) : Rp K G (.int i) (.int i)
  | str (x : Str) : Rp K G (.str x) (.str x)
  | lst {a : Addr} {xs : List V} {ds : List D} : G a = some (.lst xs) → RpL K G xs ds → Rp K G (.ref a) (.lst ds)
  | tup {a : Addr} {xs : List V} {ds : List D} : SqT K G a xs → RpL K G xs ds → Rp K G (.ref a) (.tup ds)
  | obj {a C dx : Addr} {vs : List (Str × V)} {fs : List (Str × D)} : G a = some (.ins C dx vs) → RpF K G vs fs → Rp K G (.ref a) (.obj C fs)
inductive RpL (K : PySem.W.Frag) (G : Hp) : List V → List D → Prop
  | nil : RpL K G [] []
  | cons {v : V} {vs : List V} {d : D} {ds : List D} : Rp K G v d → RpL K G vs ds → RpL K G (v :: vs) (d :: ds)
inductive RpF (K : PySem.W.Frag) (G : Hp) : List (Str × V) → List (Str × D) → Prop
  | nil : RpF K G [] []
  | cons {f : Str} {v : V} {vs : List (Str × V)} {d : D} {ds : List (Str × D)} : Rp K G v d → RpF K G vs ds → RpF K G ((f, v) :: vs) ((f, d) :: ds)
end

theorem rd_ex {H H' : Hp} {a : Addr} {u : HO} (e : Exx H H') (n : ∀ ps, u ≠ HO.tbl ps) (h : Rd H a u) : Rd H' a u := by
  rcases h with h | ⟨o, h⟩
  · exact Or.inl (e a _ h n)
  · exact Or.inr ⟨o, e a _ h (fun _ z => nomatch z)⟩
theorem sl_ex {K : PySem.W.Frag} {H H' : Hp} {a : Addr} {xs : List V} (e : Exx H H') (h : SqL K H a xs) : SqL K H' a xs := by
  rcases h with h | h
  · exact Or.inl (rd_ex e (fun _ z => nomatch z) h)
  · exact Or.inr h
theorem st_ex {K : PySem.W.Frag} {H H' : Hp} {a : Addr} {xs : List V} (e : Exx H H') (h : SqT K H a xs) : SqT K H' a xs := by
  rcases h with h | h
  · exact Or.inl (rd_ex e (fun _ z => nomatch z) h)
  · exact Or.inr h
mutual
theorem Rp.ex {K : PySem.W.Frag} {G G' : Hp} (e : Exx G G') : ∀ {v : V} {d : D}, Rp K G v d → Rp K G' v d
  | _, _, .non => .non
  | _, _, .bl b => .bl b
  | _, _, .int i => .int i
  | _, _, .str x => .str x
  | _, _, .lst h r => .lst (e.l h) (RpL.ex e r)
  | _, _, .tup h r => .tup (st_ex e h) (RpL.ex e r)
  | _, _, .obj h r => .obj (e.i h) (RpF.ex e r)
theorem RpL.ex {K : PySem.W.Frag} {G G' : Hp} (e : Exx G G') : ∀ {vs : List V} {ds : List D}, RpL K G vs ds → RpL K G' vs ds
  | _, _, .nil => .nil
  | _, _, .cons h r => .cons (Rp.ex e h) (RpL.ex e r)
theorem RpF.ex {K : PySem.W.Frag} {G G' : Hp} (e : Exx G G') : ∀ {vs : List (Str × V)} {ds : List (Str × D)}, RpF K G vs ds → RpF K G' vs ds
  | _, _, .nil => .nil
  | _, _, .cons h r => .cons (Rp.ex e h) (RpF.ex e r)
end
section
variable {K : PySem.W.Frag} {G : Hp}
theorem Rp.int_inv {v : V} {i : Int} (h : Rp K G v (.int i)) : v = .int i := by cases h; rfl
theorem Rp.bl_inv {v : V} {b : Bool} (h : Rp K G v (.bl b)) : v = .bl b := by cases h; rfl
theorem Rp.str_inv {v : V} {x : Str} (h : Rp K G v (.str x)) : v = .str x := by cases h; rfl
theorem Rp.non_inv {v : V} (h : Rp K G v .non) : v = .non := by cases h; rfl
theorem Rp.lst_inv {v : V} {ds : List D} (h : Rp K G v (.lst ds)) : ∃ a xs, v = .ref a ∧ G a = some (.lst xs) ∧ RpL K G xs ds := by
  cases h with
  | lst h r => exact ⟨_, _, rfl, h, r⟩
theorem Rp.tup_inv {v : V} {ds : List D} (h : Rp K G v (.tup ds)) : ∃ a xs, v = .ref a ∧ SqT K G a xs ∧ RpL K G xs ds := by
  cases h with
  | tup h r => exact ⟨_, _, rfl, h, r⟩
theorem Rp.obj_inv {v : V} {C : Addr} {fs : List (Str × D)} (h : Rp K G v (.obj C fs)) : ∃ a dx vs, v = .ref a ∧ G a = some (.ins C dx vs) ∧ RpF K G vs fs := by
  cases h with
  | obj h r => exact ⟨_, _, _, rfl, h, r⟩
theorem RpL.length : ∀ {vs : List V} {ds : List D}, RpL K G vs ds → vs.length = ds.length
  | _, _, .nil => rfl
  | _, _, .cons _ r => congrArg Nat.succ (RpL.length r)
theorem RpL.get : ∀ {vs : List V} {ds : List D} {i : Nat} {d : D}, RpL K G vs ds → ds[i]? = some d → ∃ v, vs[i]? = some v ∧ Rp K G v d
  | _, _, _, _, .nil, e => by simp at e
  | _, _, 0, _, .cons r _, e => by simp at e; subst e; exact ⟨_, rfl, r⟩
  | _, _, i + 1, x, .cons _ t, e => by
    obtain ⟨u, h1, h2⟩ := RpL.get (i := i) t (by simpa using e)
    exact ⟨u, by simpa using h1, h2⟩
theorem RpL.getV : ∀ {vs : List V} {ds : List D} {i : Nat} {v : V}, RpL K G vs ds → vs[i]? = some v → ∃ d, ds[i]? = some d ∧ Rp K G v d
  | _, _, _, _, .nil, e => by simp at e
  | _, _, 0, _, .cons r _, e => by simp at e; subst e; exact ⟨_, rfl, r⟩
  | _, _, i + 1, x, .cons _ t, e => by
    obtain ⟨u, h1, h2⟩ := RpL.getV (i := i) t (by simpa using e)
    exact ⟨u, by simpa using h1, h2⟩
theorem RpL.append : ∀ {xs ys : List V} {as bs : List D}, RpL K G xs as → RpL K G ys bs → RpL K G (xs ++ ys) (as ++ bs)
  | _, _, _, _, .nil, s => s
  | _, _, _, _, .cons r t, s => .cons r (RpL.append t s)
theorem RpL.take : ∀ {xs : List V} {as : List D} (n : Nat), RpL K G xs as → RpL K G (xs.take n) (as.take n)
  | _, _, 0, _ => .nil
  | _, _, _ + 1, .nil => .nil
  | _, _, n + 1, .cons r t => .cons r (RpL.take n t)
theorem RpL.drop : ∀ {xs : List V} {as : List D} (n : Nat), RpL K G xs as → RpL K G (xs.drop n) (as.drop n)
  | _, _, 0, r => r
  | _, _, _ + 1, .nil => .nil
  | _, _, n + 1, .cons _ t => RpL.drop n t
theorem RpL.reverse : ∀ {xs : List V} {as : List D}, RpL K G xs as → RpL K G xs.reverse as.reverse
  | _, _, .nil => .nil
  | _, _, .cons r t => by
    rw [List.reverse_cons, List.reverse_cons]
    exact RpL.append (RpL.reverse t) (.cons r .nil)
theorem RpL.replicate {v : V} {d : D} (h : Rp K G v d) : ∀ n, RpL K G (List.replicate n v) (List.replicate n d)
  | 0 => .nil
  | n + 1 => .cons h (RpL.replicate h n)
theorem RpL.ints : ∀ ns : List Int, RpL K G (ns.map V.int) (ns.map D.int)
  | [] => .nil
  | n :: r => .cons (.int n) (RpL.ints r)
theorem RpL.ints_inv : ∀ {ns : List Int} {vs : List V}, RpL K G vs (ns.map D.int) → vs = ns.map V.int
  | [], _, h => by cases h; rfl
  | n :: r, _, h => by
    cases h with
    | cons a b =>
      cases a
      rw [RpL.ints_inv b]; rfl
theorem RpL.bls_inv : ∀ {ns : List Bool} {vs : List V}, RpL K G vs (ns.map D.bl) → vs = ns.map V.bl
  | [], _, h => by cases h; rfl
  | n :: r, _, h => by
    cases h with
    | cons a b =>
      cases a
      rw [RpL.bls_inv b]; rfl
theorem RpL.strs_inv : ∀ {ns : List Str} {vs : List V}, RpL K G vs (ns.map D.str) → vs = ns.map V.str
  | [], _, h => by cases h; rfl
  | n :: r, _, h => by
    cases h with
    | cons a b =>
      cases a
      rw [RpL.strs_inv b]; rfl
theorem RpF.look : ∀ {vs : List (Str × V)} {ds : List (Str × D)} {f : Str} {d : D}, RpF K G vs ds → ds.lookup f = some d → ∃ v, vs.lookup f = some v ∧ Rp K G v d
  | _, _, _, _, .nil, e => by simp at e
  | _, _, f, d, .cons (f := g) r t, e => by
    rw [List.lookup_cons] at e ⊢
    cases q : f == g with
    | true =>
      rw [q] at e
      cases e
      exact ⟨_, rfl, r⟩
    | false =>
      rw [q] at e
      exact RpF.look t e
theorem RpF.lookN : ∀ {vs : List (Str × V)} {ds : List (Str × D)} {f : Str}, RpF K G vs ds → ds.lookup f = none → vs.lookup f = none
  | _, _, _, .nil, _ => rfl
  | _, _, f, .cons (f := g) r t, e => by
    rw [List.lookup_cons] at e ⊢
    cases q : f == g with
    | true => rw [q] at e; cases e
    | false => rw [q] at e; exact RpF.lookN t e
end

/-! ### growth -/
def DiceAt (H : Hp) (a : Addr) : Prop := ∃ x y z : Int, H a = some (.lst [.int x, .int y, .int z])
/-- nothing stands at a, or a table -/
def Nt (H : Hp) (a : Addr) : Prop := ∀ o, H a = some o → ∃ ps, o = HO.tbl ps
theorem Nt.of {H : Hp} {a : Addr} (h : H a = none) : Nt H a := fun o e => by rw [h] at e; cases e
theorem Nt.l {H : Hp} {a : Addr} {xs : List V} (n : Nt H a) (h : H a = some (.lst xs)) : False := by
  obtain ⟨ps, e⟩ := n _ h
  cases e
/-- tables and code objects stand -/
def Tbd (H H' : Hp) : Prop := ∀ T, LamX.Tabs T H → LamX.Tabs T H'
theorem Tbd.refl (H : Hp) : Tbd H H := fun _ h => h
theorem Tbd.of {H H' : Hp} (h : ∀ b o, H b = some o → (∀ xs, o ≠ HO.lst xs) → H' b = some o) : Tbd H H' := fun T t p hp => by
  obtain ⟨ps, h1, h2, h3⟩ := t p hp
  refine ⟨ps, h _ _ h1 (fun _ z => nomatch z), h2, fun pos cv hc => ?_⟩
  obtain ⟨c, e1, e2⟩ := h3 pos cv hc
  exact ⟨c, e1, h _ _ e2 (fun _ z => nomatch z)⟩
theorem Tbd.new {H : Hp} {p : Addr} {o : HO} (hp : H p = none) : Tbd H (upd H p o) := .of fun b u e _ => by rw [upd_ne (ne_of_none e hp)]; exact e
theorem Tbd.chg {H : Hp} {p : Addr} {xs : List V} {o : HO} (hp : H p = some (.lst xs)) : Tbd H (upd H p o) := .of fun b u e n => by
  have : b ≠ p := fun z => by
    rw [z, hp] at e
    exact n xs (Option.some.inj e).symm
  rw [upd_ne this]; exact e
/-- from (G, H) to (G', H'): G frozen; what H knew stands (but the dice and the tables at q); what G' knows besides is new -/
structure Gr (q : Qd) (G H G' H' : Hp) : Prop where
  ex : Exx G G'
  nw : ∀ a o, G' a = some o → G a = some o ∨ Nt H a
  sub : Exx G' H'
  keep : ∀ a o, (∀ T, q ≠ some (a, T)) → H a = some o → (∀ ps, o ≠ HO.tbl ps) → H' a = some o
  tk : q = none → Tbd H H'
  dq : ∀ a T, q = some (a, T) → DiceAt H a ∧ LamX.Tabs T H → DiceAt H' a ∧ LamX.Tabs T H'
theorem Gr.refl {q : Qd} {G H : Hp} (h : Exx G H) : Gr q G H G H := ⟨Exx.refl G, fun _ _ e => .inl e, h, fun _ _ _ e _ => e, fun _ => Tbd.refl H, fun _ _ _ e => e⟩
theorem Gr.live {q : Qd} {G H G' H' : Hp} (g : Gr q G H G' H') (hq : ∀ a T, q = some (a, T) → DiceAt H a ∧ LamX.Tabs T H) {a : Addr} (h : Nt H' a) : Nt H a := fun o e => by
  by_cases n : ∃ ps, o = HO.tbl ps
  · exact n
  · by_cases c : ∃ T, q = some (a, T)
    · obtain ⟨T, c⟩ := c
      obtain ⟨⟨x, y, z, d⟩, _⟩ := g.dq a T c (hq a T c)
      exact (h.l d).elim
    · obtain ⟨ps, z⟩ := h o (g.keep a o (fun T z => c ⟨T, z⟩) e (fun ps z => n ⟨ps, z⟩))
      exact ⟨ps, z⟩
theorem Gr.trans {q : Qd} {G H G1 H1 G2 H2 : Hp} (a : Gr q G H G1 H1) (b : Gr q G1 H1 G2 H2) (hq : ∀ a T, q = some (a, T) → DiceAt H a ∧ LamX.Tabs T H) : Gr q G H G2 H2 where
  ex := a.ex.trans b.ex
  nw := fun x o e => by
    rcases b.nw x o e with h | h
    · exact a.nw x o h
    · exact .inr (a.live hq h)
  sub := b.sub
  keep := fun x o c e n => b.keep x o c (a.keep x o c e n) n
  tk := fun c T t => b.tk c T (a.tk c T t)
  dq := fun x T c e => b.dq x T c (a.dq x T c e)
theorem Gr.kl {q : Qd} {G H G' H' : Hp} (g : Gr q G H G' H') {a : Addr} {xs : List V} (n : ∀ T, q ≠ some (a, T)) (h : H a = some (.lst xs)) : H' a = some (.lst xs) := g.keep a _ n h (fun _ z => nomatch z)
/-- a growth that keeps all keeps the dice -/
theorem Gr.any {q : Qd} {G H G' H' : Hp} (a : Gr none G H G' H') : Gr q G H G' H' where
  ex := a.ex
  nw := a.nw
  sub := a.sub
  keep := fun x o _ e n => a.keep x o (by simp) e n
  tk := fun _ => a.tk rfl
  dq := fun x T _ ⟨⟨i, j, k, e⟩, t⟩ => ⟨⟨i, j, k, a.kl (by simp) e⟩, a.tk rfl T t⟩
/-- a new frozen object -/
theorem Gr.new {G H : Hp} {p : Addr} {o : HO} (h : Exx G H) (hp : H p = none) (nt : ∀ ps, o ≠ HO.tbl ps := by exact fun _ z => nomatch z) : Gr none G H (upd G p o) (upd H p o) where
  ex := fun a u e n => by
    have : a ≠ p := fun z => by subst z; rw [h a u e n] at hp; cases hp
    rw [upd_ne this]; exact e
  nw := fun a u e => by
    by_cases c : a = p
    · subst c; exact .inr (.of hp)
    · rw [upd_ne c] at e; exact .inl e
  sub := fun a u e n => by
    by_cases c : a = p
    · subst c; rw [upd_same] at e ⊢; exact e
    · rw [upd_ne c] at e ⊢; exact h a u e n
  keep := fun a u _ e _ => by rw [upd_ne (ne_of_none e hp)]; exact e
  tk := fun _ => .new hp
  dq := fun _ _ q => nomatch q

/-! ### environments -/
inductive Sl where
  /-- no value, or none that matters -/
  | no
  /-- a datum -/
  | dat (d : D)
  /-- a list of this def's own, still growing -/
  | own (ds : List D)
  /-- the dice -/
  | dice (T : Tb)
abbrev En := List Sl
structure Rs (K : PySem.W.Frag) (q : Qd) (H0 G H : Hp) (σ : L2.St) (Δ : En) : Prop where
  sub : Exx G H
  len : σ.length = Δ.length
  gq : ∀ a T, q = some (a, T) → Nt G a ∧ DiceAt H a ∧ LamX.Tabs T H
  dat : ∀ (i : Nat) (d : D), Δ[i]? = some (Sl.dat d) → ∃ v, σ[i]? = some (some v) ∧ Rp K G v d
  own : ∀ (i : Nat) (ds : List D), Δ[i]? = some (Sl.own ds) → ∃ (p : Addr) (vs : List V), σ[i]? = some (some (V.ref p)) ∧ H p = some (.lst vs) ∧ RpL K G vs ds ∧ Nt G p ∧ Nt H0 p ∧ ∀ T, q ≠ some (p, T)
  dif : ∀ (i j : Nat) (ds es : List D) (p : Addr), Δ[i]? = some (Sl.own ds) → Δ[j]? = some (Sl.own es) → σ[i]? = some (some (V.ref p)) → σ[j]? = some (some (V.ref p)) → i = j
  dice : ∀ (i : Nat) (T : Tb), Δ[i]? = some (Sl.dice T) → ∃ a : Addr, q = some (a, T) ∧ σ[i]? = some (some (V.ref a))
/-- the state: grown from the entry (G0, H0), its slots told by Δ -/
structure Sta (K : PySem.W.Frag) (q : Qd) (G0 H0 G H : Hp) (σ : L2.St) (Δ : En) : Prop where
  gr : Gr q G0 H0 G H
  hq : ∀ a T, q = some (a, T) → DiceAt H0 a ∧ LamX.Tabs T H0
  rs : Rs K q H0 G H σ Δ

section
variable {K : PySem.W.Frag} {q : Qd} {G0 H0 G H G' H' : Hp} {σ : L2.St} {Δ : En}
theorem Gr.un (g : Gr q G H G' H') {p : Addr} {xs : List V} (n : Nt G p) (h : H p = some (.lst xs)) : Nt G' p := fun o e => by
  rcases g.nw p o e with z | z
  · exact n o z
  · exact (z.l h).elim
/-- the state behind a growth that may turn the dice -/
theorem Sta.go (s : Sta K q G0 H0 G H σ Δ) (g : Gr q G H G' H') : Sta K q G0 H0 G' H' σ Δ := by
  refine ⟨s.gr.trans g s.hq, s.hq, g.sub, s.rs.len, fun a T e => ?_, fun i d e => ?_, fun i ds e => ?_, s.rs.dif, s.rs.dice⟩
  · obtain ⟨h1, h2⟩ := s.rs.gq a T e
    obtain ⟨x, y, z, h3⟩ := h2.1
    exact ⟨g.un h1 h3, g.dq a T e h2⟩
  · obtain ⟨v, h1, h2⟩ := s.rs.dat i d e
    exact ⟨v, h1, h2.ex g.ex⟩
  · obtain ⟨p, vs, h1, h2, h3, h4, h5, h6⟩ := s.rs.own i ds e
    exact ⟨p, vs, h1, g.kl h6 h2, h3.ex g.ex, g.un h4 h2, h5, h6⟩
theorem Sta.pure (s : Sta K q G0 H0 G H σ Δ) (g : Gr none G H G' H') : Sta K q G0 H0 G' H' σ Δ := s.go g.any
theorem Sta.sub (s : Sta K q G0 H0 G H σ Δ) : Exx G H := s.rs.sub
theorem Sta.dq (s : Sta K q G0 H0 G H σ Δ) : ∀ a T, q = some (a, T) → DiceAt H a ∧ LamX.Tabs T H := fun a T e => (s.rs.gq a T e).2
theorem Sta.rf (s : Sta K q G0 H0 G H σ Δ) : Gr q G H G H := Gr.refl s.sub
theorem Sta.tr {G1 H1 G2 H2 : Hp} (s : Sta K q G0 H0 G H σ Δ) (g1 : Gr q G H G1 H1) (g2 : Gr q G1 H1 G2 H2) : Gr q G H G2 H2 := g1.trans g2 s.dq
/-- the state at an entry -/
theorem Sta.start {G H : Hp} {σ : L2.St} {Δ : En} (r : Rs K q H G H σ Δ) : Sta K q G H G H σ Δ := ⟨Gr.refl r.sub, fun a T e => (r.gq a T e).2, r⟩
/-- a slot gets a datum -/
theorem Sta.set (s : Sta K q G0 H0 G H σ Δ) {i : Nat} {v : V} {d : D} (r : Rp K G v d) : Sta K q G0 H0 G H (σ.set i (some v)) (Δ.set i (.dat d)) := by
  refine ⟨s.gr, s.hq, s.rs.sub, by rw [List.length_set, List.length_set]; exact s.rs.len, s.rs.gq, fun j e he => ?_, fun j ds he => ?_, fun j k ds es p h1 h2 h3 h4 => ?_, fun j T he => ?_⟩
  · by_cases c : i = j
    · subst c
      have hl : i < Δ.length := by
        have := (List.getElem?_eq_some_iff.mp he).1
        simpa using this
      rw [List.getElem?_set_self hl] at he
      cases he
      exact ⟨v, List.getElem?_set_self (by rw [s.rs.len]; exact hl), r⟩
    · rw [List.getElem?_set_ne c] at he ⊢
      exact s.rs.dat j e he
  · by_cases c : i = j
    · subst c
      have hl : i < Δ.length := by
        have := (List.getElem?_eq_some_iff.mp he).1
        simpa using this
      rw [List.getElem?_set_self hl] at he
      cases he
    · rw [List.getElem?_set_ne c] at he ⊢
      exact s.rs.own j ds he
  · have nj : i ≠ j := fun c => by
      subst c
      have hl : i < Δ.length := by
        have := (List.getElem?_eq_some_iff.mp h1).1
        simpa using this
      rw [List.getElem?_set_self hl] at h1; cases h1
    have nk : i ≠ k := fun c => by
      subst c
      have hl : i < Δ.length := by
        have := (List.getElem?_eq_some_iff.mp h2).1
        simpa using this
      rw [List.getElem?_set_self hl] at h2; cases h2
    rw [List.getElem?_set_ne nj] at h1 h3
    rw [List.getElem?_set_ne nk] at h2 h4
    exact s.rs.dif j k ds es p h1 h2 h3 h4
  · by_cases c : i = j
    · subst c
      have hl : i < Δ.length := by
        have := (List.getElem?_eq_some_iff.mp he).1
        simpa using this
      rw [List.getElem?_set_self hl] at he
      cases he
    · rw [List.getElem?_set_ne c] at he ⊢
      exact s.rs.dice j T he
/-- forgetting slots -/
theorem Sta.weak {σ' : L2.St} {Δ' : En} (s : Sta K q G0 H0 G H σ Δ) (hl : σ'.length = Δ'.length) (w : ∀ (i : Nat) (e : Sl), Δ'[i]? = some e → e = Sl.no ∨ (Δ[i]? = some e ∧ σ'[i]? = σ[i]?)) : Sta K q G0 H0 G H σ' Δ' := by
  refine ⟨s.gr, s.hq, s.rs.sub, hl, s.rs.gq, fun j e he => ?_, fun j ds he => ?_, fun j k ds es p h1 h2 h3 h4 => ?_, fun j T he => ?_⟩
  · rcases w _ _ he with c | ⟨c, c2⟩
    · cases c
    · rw [c2]; exact s.rs.dat j e c
  · rcases w _ _ he with c | ⟨c, c2⟩
    · cases c
    · rw [c2]; exact s.rs.own j ds c
  · rcases w _ _ h1 with c | ⟨c, c2⟩
    · cases c
    · rcases w _ _ h2 with d | ⟨d, d2⟩
      · cases d
      · rw [c2] at h3
        rw [d2] at h4
        exact s.rs.dif j k ds es p c d h3 h4
  · rcases w _ _ he with c | ⟨c, c2⟩
    · cases c
    · rw [c2]; exact s.rs.dice j T c
theorem Sta.setAny (s : Sta K q G0 H0 G H σ Δ) {i : Nat} {v : Option V} : Sta K q G0 H0 G H (σ.set i v) (Δ.set i .no) := by
  refine s.weak (by rw [List.length_set, List.length_set]; exact s.rs.len) fun j e he => ?_
  by_cases c : i = j
  · subst c
    have hl : i < Δ.length := by
      have := (List.getElem?_eq_some_iff.mp he).1
      simpa using this
    rw [List.getElem?_set_self hl] at he
    cases he
    exact .inl rfl
  · rw [List.getElem?_set_ne c] at he ⊢
    exact .inr ⟨he, rfl⟩
/-- a growing list is changed -/
theorem Sta.change (s : Sta K q G0 H0 G H σ Δ) {i : Nat} {p : Addr} {ds es : List D} {ws : List V} (hi : Δ[i]? = some (Sl.own ds)) (hp : σ[i]? = some (some (V.ref p))) (r : RpL K G ws es) :
    Sta K q G0 H0 G (upd H p (.lst ws)) σ (Δ.set i (.own es)) := by
  obtain ⟨p', vs, h1, h2, h3, h4, h5, h6⟩ := s.rs.own i ds hi
  have ep : p' = p := by rw [hp] at h1; cases h1; rfl
  subst ep
  have hl : i < Δ.length := (List.getElem?_eq_some_iff.mp hi).1
  have nop : ∀ {F : Hp} {a : Addr} {o : HO}, Nt F p' → F a = some o → (∀ ps, o ≠ HO.tbl ps) → a ≠ p' := fun n e nt z => by
    rw [z] at e
    obtain ⟨ps, h⟩ := n _ e
    exact nt ps h
  have subn : Exx G (upd H p' (.lst ws)) := fun a o e nt => by rw [upd_ne (nop h4 e nt)]; exact s.rs.sub a o e nt
  have dn : ∀ a T, q = some (a, T) → DiceAt H a ∧ LamX.Tabs T H → DiceAt (upd H p' (.lst ws)) a ∧ LamX.Tabs T (upd H p' (.lst ws)) := fun a T c ⟨⟨x, y, z, e⟩, t⟩ => by
    have : a ≠ p' := fun z => by rw [z] at c; exact h6 T c
    exact ⟨⟨x, y, z, by rw [upd_ne this]; exact e⟩, Tbd.chg h2 T t⟩
  refine ⟨⟨s.gr.ex, s.gr.nw, subn, fun a o c e nt => ?_, fun c T t => Tbd.chg h2 T (s.gr.tk c T t), fun a T c d => dn a T c (s.gr.dq a T c d)⟩, s.hq, subn, by rw [List.length_set]; exact s.rs.len, fun a T c => ⟨(s.rs.gq a T c).1, dn a T c (s.rs.gq a T c).2⟩, fun j e he => ?_, fun j bs he => ?_, fun j k bs cs p h1' h2' h3' h4' => ?_, fun j T he => ?_⟩
  · rw [upd_ne (nop h5 e nt)]; exact s.gr.keep a o c e nt
  · have nj : i ≠ j := fun c => by
      subst c
      rw [List.getElem?_set_self hl] at he; cases he
    rw [List.getElem?_set_ne nj] at he
    exact s.rs.dat j e he
  · by_cases c : i = j
    · subst c
      rw [List.getElem?_set_self hl] at he
      cases he
      exact ⟨p', ws, hp, upd_same, r, h4, h5, h6⟩
    · rw [List.getElem?_set_ne c] at he
      obtain ⟨p2, vs2, g1, g2, g3, g4, g5, g6⟩ := s.rs.own j bs he
      have : p2 ≠ p' := fun z => c (s.rs.dif i j ds bs p' hi he hp (by rw [z] at g1; exact g1))
      exact ⟨p2, vs2, g1, by rw [upd_ne this]; exact g2, g3, g4, g5, g6⟩
  · have back : ∀ {l : Nat} {as : List D}, (Δ.set i (.own es))[l]? = some (Sl.own as) → ∃ as', Δ[l]? = some (Sl.own as') := fun {l as} e => by
      by_cases c : i = l
      · subst c; exact ⟨ds, hi⟩
      · rw [List.getElem?_set_ne c] at e; exact ⟨as, e⟩
    obtain ⟨b1, e1⟩ := back h1'
    obtain ⟨b2, e2⟩ := back h2'
    exact s.rs.dif j k b1 b2 p e1 e2 h3' h4'
  · have nj : i ≠ j := fun c => by
      subst c
      rw [List.getElem?_set_self hl] at he; cases he
    rw [List.getElem?_set_ne nj] at he
    exact s.rs.dice j T he
/-- a new list of one's own: at p, the slot i holds it -/
theorem Sta.newMut (s : Sta K q G0 H0 G H σ Δ) {i : Nat} {p : Addr} {ds : List D} {vs : List V} (hp : H p = none) (r : RpL K G vs ds) :
    Sta K q G0 H0 G (upd H p (.lst vs)) (σ.set i (some (V.ref p))) (Δ.set i (.own ds)) := by
  have hGp : Nt G p := fun o c => Classical.byContradiction fun n => by
    rw [s.rs.sub p o c (fun ps z => n ⟨ps, z⟩)] at hp; cases hp
  have hH0 : Nt H0 p := s.gr.live s.hq (.of hp)
  have hqp : ∀ T, q ≠ some (p, T) := fun T c => by
    obtain ⟨x, y, z, e⟩ := (s.rs.gq p T c).2.1
    rw [hp] at e; cases e
  have nop : ∀ {F : Hp} {a : Addr} {o : HO}, Nt F p → F a = some o → (∀ ps, o ≠ HO.tbl ps) → a ≠ p := fun n e nt z => by
    rw [z] at e
    obtain ⟨ps, h⟩ := n _ e
    exact nt ps h
  have subn : Exx G (upd H p (.lst vs)) := fun a o e nt => by rw [upd_ne (nop hGp e nt)]; exact s.rs.sub a o e nt
  have dn : ∀ a T, q = some (a, T) → DiceAt H a ∧ LamX.Tabs T H → DiceAt (upd H p (.lst vs)) a ∧ LamX.Tabs T (upd H p (.lst vs)) := fun a T c ⟨⟨x, y, z, e⟩, t⟩ => by
    have : a ≠ p := fun z => by rw [z] at c; exact hqp T c
    exact ⟨⟨x, y, z, by rw [upd_ne this]; exact e⟩, Tbd.new hp T t⟩
  have len' : (σ.set i (some (V.ref p))).length = (Δ.set i (.own ds)).length := by rw [List.length_set, List.length_set]; exact s.rs.len
  have old : ∀ {j : Nat} {e : Sl}, (Δ.set i (Sl.own ds))[j]? = some e → (j = i ∧ e = .own ds ∧ i < Δ.length) ∨ (j ≠ i ∧ Δ[j]? = some e ∧ (σ.set i (some (V.ref p)))[j]? = σ[j]?) := fun {j e} he => by
    by_cases c : i = j
    · subst c
      have hl : i < Δ.length := by
        have := (List.getElem?_eq_some_iff.mp he).1
        simpa using this
      rw [List.getElem?_set_self hl] at he
      cases he
      exact .inl ⟨rfl, rfl, hl⟩
    · rw [List.getElem?_set_ne c] at he
      exact .inr ⟨fun z => c z.symm, he, List.getElem?_set_ne c⟩
  refine ⟨⟨s.gr.ex, s.gr.nw, subn, fun a o c e nt => ?_, fun c T t => Tbd.new hp T (s.gr.tk c T t), fun a T c d => dn a T c (s.gr.dq a T c d)⟩, s.hq, subn, len', fun a T c => ⟨(s.rs.gq a T c).1, dn a T c (s.rs.gq a T c).2⟩, fun j e he => ?_, fun j bs he => ?_, fun j k bs cs p2 h1' h2' h3' h4' => ?_, fun j T he => ?_⟩
  · rw [upd_ne (nop hH0 e nt)]; exact s.gr.keep a o c e nt
  · rcases old he with ⟨_, c, _⟩ | ⟨_, c, c2⟩
    · cases c
    · rw [c2]; exact s.rs.dat j e c
  · rcases old he with ⟨c1, c, hl⟩ | ⟨_, c, c2⟩
    · cases c
      subst c1
      exact ⟨p, vs, List.getElem?_set_self (by rw [s.rs.len]; exact hl), upd_same, r, hGp, hH0, hqp⟩
    · obtain ⟨p2, vs2, g1, g2, g3, g4, g5, g6⟩ := s.rs.own j bs c
      have : p2 ≠ p := fun z => by rw [z, hp] at g2; cases g2
      exact ⟨p2, vs2, by rw [c2]; exact g1, by rw [upd_ne this]; exact g2, g3, g4, g5, g6⟩
  · have other : ∀ {l : Nat} {as : List D}, l ≠ i → Δ[l]? = some (Sl.own as) → (σ.set i (some (V.ref p)))[l]? = σ[l]? → (σ.set i (some (V.ref p)))[l]? ≠ some (some (V.ref p)) := fun {l as} n e e2 z => by
      obtain ⟨p3, vs3, g1, g2, _⟩ := s.rs.own l as e
      rw [e2, g1] at z
      cases z
      rw [hp] at g2; cases g2
    have self : ∀ {l : Nat}, l = i → i < Δ.length → (σ.set i (some (V.ref p)))[l]? = some (some (V.ref p)) := fun {l} e hl => by
      subst e
      exact List.getElem?_set_self (by rw [s.rs.len]; exact hl)
    rcases old h1' with ⟨c1, _, hl⟩ | ⟨n1, c1, e1⟩
    · rcases old h2' with ⟨c2, _, _⟩ | ⟨n2, c2, e2⟩
      · rw [c1, c2]
      · rw [self c1 hl] at h3'
        cases h3'
        exact absurd h4' (other n2 c2 e2)
    · rcases old h2' with ⟨c2, _, hl⟩ | ⟨n2, c2, e2⟩
      · rw [self c2 hl] at h4'
        cases h4'
        exact absurd h3' (other n1 c1 e1)
      · rw [e1] at h3'
        rw [e2] at h4'
        exact s.rs.dif j k bs cs p2 c1 c2 h3' h4'
  · rcases old he with ⟨_, c, _⟩ | ⟨_, c, c2⟩
    · cases c
    · rw [c2]; exact s.rs.dice j T c
/-- a list of one's own is frozen -/
theorem Sta.freeze (s : Sta K q G0 H0 G H σ Δ) {i : Nat} {ds : List D} (hi : Δ[i]? = some (Sl.own ds)) : ∃ G', Exx G G' ∧ Sta K q G0 H0 G' H σ (Δ.set i (.dat (.lst ds))) := by
  obtain ⟨p, vs, h1, h2, h3, h4, h5, h6⟩ := s.rs.own i ds hi
  have hl : i < Δ.length := (List.getElem?_eq_some_iff.mp hi).1
  have nop : ∀ {F : Hp} {a : Addr} {o : HO}, Nt F p → F a = some o → (∀ ps, o ≠ HO.tbl ps) → a ≠ p := fun n e nt z => by
    rw [z] at e
    obtain ⟨ps, h⟩ := n _ e
    exact nt ps h
  have exn : Exx G (upd G p (.lst vs)) := fun a o e nt => by rw [upd_ne (nop h4 e nt)]; exact e
  have subn : Exx (upd G p (.lst vs)) H := fun a o e nt => by
    by_cases c : a = p
    · rw [c, upd_same] at e; rw [c, ← e]; exact h2
    · rw [upd_ne c] at e; exact s.rs.sub a o e nt
  refine ⟨upd G p (.lst vs), exn, ⟨s.gr.ex.trans exn, fun a o e => ?_, subn, s.gr.keep, s.gr.tk, s.gr.dq⟩, s.hq, subn, by rw [List.length_set]; exact s.rs.len, fun a T c => ?_, fun j e he => ?_, fun j bs he => ?_, fun j k bs cs p2 h1' h2' h3' h4' => ?_, fun j T he => ?_⟩
  · by_cases c : a = p
    · rw [c]; exact .inr h5
    · rw [upd_ne c] at e; exact s.gr.nw a o e
  · obtain ⟨e1, e2⟩ := s.rs.gq a T c
    have : a ≠ p := fun z => by rw [z] at c; exact h6 T c
    exact ⟨fun o e => by rw [upd_ne this] at e; exact e1 o e, e2⟩
  · by_cases c : i = j
    · subst c
      rw [List.getElem?_set_self hl] at he
      cases he
      exact ⟨.ref p, h1, .lst upd_same (h3.ex exn)⟩
    · rw [List.getElem?_set_ne c] at he
      obtain ⟨v, g1, g2⟩ := s.rs.dat j e he
      exact ⟨v, g1, g2.ex exn⟩
  · have nj : i ≠ j := fun c => by
      subst c
      rw [List.getElem?_set_self hl] at he; cases he
    rw [List.getElem?_set_ne nj] at he
    obtain ⟨p2, vs2, g1, g2, g3, g4, g5, g6⟩ := s.rs.own j bs he
    have : p2 ≠ p := fun z => nj (s.rs.dif i j ds bs p hi he h1 (by rw [z] at g1; exact g1))
    exact ⟨p2, vs2, g1, g2, g3.ex exn, fun o e => by rw [upd_ne this] at e; exact g4 o e, g5, g6⟩
  · have nj : i ≠ j := fun c => by
      subst c
      rw [List.getElem?_set_self hl] at h1'; cases h1'
    have nk : i ≠ k := fun c => by
      subst c
      rw [List.getElem?_set_self hl] at h2'; cases h2'
    rw [List.getElem?_set_ne nj] at h1'
    rw [List.getElem?_set_ne nk] at h2'
    exact s.rs.dif j k bs cs p2 h1' h2' h3' h4'
  · have nj : i ≠ j := fun c => by
      subst c
      rw [List.getElem?_set_self hl] at he; cases he
    rw [List.getElem?_set_ne nj] at he
    exact s.rs.dice j T he
end
end Ts


namespace Ts
open PySem L2

/-! ### expressions -/
section
variable (K : PySem.W.Frag) (E : L2.St → XK)
/-- te has some datum of R; it may raise one of X -/
def Ev (te : TE) (Δ : En) (R : D → Prop) (X : Addr → Prop) : Prop :=
  ∀ (q : Qd) (G0 H0 G H : Hp) (σ : L2.St) (Q : VK), Sta K q G0 H0 G H σ Δ →
    (∀ (v : V) (d : D) (G' H' : Hp), Gr q G H G' H' → Rp K G' v d → R d → Q v H') →
    (∀ (C : Addr) (G' H' : Hp), Gr q G H G' H' → X C → E σ (.ref C) none H') → te σ H Q
def Et (tt : TT) (Δ : En) (R : Bool → Prop) (X : Addr → Prop) : Prop :=
  ∀ (q : Qd) (G0 H0 G H : Hp) (σ : L2.St) (Q : Bool → Hp → Prop), Sta K q G0 H0 G H σ Δ →
    (∀ (b : Bool) (G' H' : Hp), Gr q G H G' H' → R b → Q b H') →
    (∀ (C : Addr) (G' H' : Hp), Gr q G H G' H' → X C → E σ (.ref C) none H') → tt σ H Q
def Ea (ta : TA) (Δ : En) (R : List D → Prop) (X : Addr → Prop) : Prop :=
  ∀ (q : Qd) (G0 H0 G H : Hp) (σ : L2.St) (Q : List V → Hp → Prop), Sta K q G0 H0 G H σ Δ →
    (∀ (vs : List V) (ds : List D) (G' H' : Hp), Gr q G H G' H' → RpL K G' vs ds → R ds → Q vs H') →
    (∀ (C : Addr) (G' H' : Hp), Gr q G H G' H' → X C → E σ (.ref C) none H') → ta σ H Q
def Eo (to : TO) (Δ : En) (R : Option Int → Prop) (X : Addr → Prop) : Prop :=
  ∀ (q : Qd) (G0 H0 G H : Hp) (σ : L2.St) (Q : Option Int → Hp → Prop), Sta K q G0 H0 G H σ Δ →
    (∀ (o : Option Int) (G' H' : Hp), Gr q G H G' H' → R o → Q o H') →
    (∀ (C : Addr) (G' H' : Hp), Gr q G H G' H' → X C → E σ (.ref C) none H') → to σ H Q
end
/-- operations by data: on two, on one, a call -/
def OpD (K : PySem.W.Frag) (r : R2) (x y : D) (R : D → Prop) : Prop := ∀ (G H : Hp) (v w : V) (Q : VK), Exx G H → Rp K G v x → Rp K G w y →
  (∀ (u : V) (d : D) (G' H' : Hp), Gr none G H G' H' → Rp K G' u d → R d → Q u H') → r v w H Q
def UnD (K : PySem.W.Frag) (r : V → Hp → VK → Prop) (x : D) (R : D → Prop) : Prop := ∀ (G H : Hp) (v : V) (Q : VK), Exx G H → Rp K G v x →
  (∀ (u : V) (d : D) (G' H' : Hp), Gr none G H G' H' → Rp K G' u d → R d → Q u H') → r v H Q
def CbD (K : PySem.W.Frag) (r : List V → Hp → VK → Prop) (xs : List D) (R : D → Prop) : Prop := ∀ (G H : Hp) (vs : List V) (Q : VK), Exx G H → RpL K G vs xs →
  (∀ (u : V) (d : D) (G' H' : Hp), Gr none G H G' H' → Rp K G' u d → R d → Q u H') → r vs H Q
def SlD (K : PySem.W.Frag) (r : V → Option Int → Option Int → Hp → VK → Prop) (x : D) (lo hi : Option Int) (R : D → Prop) : Prop := ∀ (G H : Hp) (v : V) (Q : VK), Exx G H → Rp K G v x →
  (∀ (u : V) (d : D) (G' H' : Hp), Gr none G H G' H' → Rp K G' u d → R d → Q u H') → r v lo hi H Q

section
variable {K : PySem.W.Frag} {E : L2.St → XK} {Δ : En} {te ta tb tc : TE} {tt tu : TT} {R Ra Rb : D → Prop} {X : Addr → Prop}
theorem Ev.mono {R' : D → Prop} {X' : Addr → Prop} (h : Ev K E te Δ R X) (hr : ∀ d, R d → R' d) (hx : ∀ C, X C → X' C) : Ev K E te Δ R' X' :=
  fun q G0 H0 G H σ Q s k kx => h q G0 H0 G H σ Q s (fun v d G' H' g r rd => k v d G' H' g r (hr d rd)) fun C G' H' g x => kx C G' H' g (hx C x)
theorem Ev.imp {R' : D → Prop} (h : Ev K E te Δ R X) (hr : ∀ d, R d → R' d) : Ev K E te Δ R' X := h.mono hr fun _ x => x
theorem Et.mono {R R' : Bool → Prop} {X' : Addr → Prop} (h : Et K E tt Δ R X) (hr : ∀ d, R d → R' d) (hx : ∀ C, X C → X' C) : Et K E tt Δ R' X' :=
  fun q G0 H0 G H σ Q s k kx => h q G0 H0 G H σ Q s (fun b G' H' g rd => k b G' H' g (hr b rd)) fun C G' H' g x => kx C G' H' g (hx C x)
theorem Et.imp {R R' : Bool → Prop} (h : Et K E tt Δ R X) (hr : ∀ d, R d → R' d) : Et K E tt Δ R' X := h.mono hr fun _ x => x
theorem Ea.imp {ta : TA} {R R' : List D → Prop} (h : Ea K E ta Δ R X) (hr : ∀ d, R d → R' d) : Ea K E ta Δ R' X :=
  fun q G0 H0 G H σ Q s k kx => h q G0 H0 G H σ Q s (fun v d G' H' g r rd => k v d G' H' g r (hr d rd)) kx
theorem ev_var {i : Nat} {d : D} (h : Δ[i]? = some (Sl.dat d)) : Ev K E (tVar i) Δ (· = d) X := fun q G0 H0 G H σ Q s k _ => by
  obtain ⟨v, h1, h2⟩ := s.rs.dat i d h
  exact ⟨v, h1, k v d G H s.rf h2 rfl⟩
theorem ev_int {i : Int} : Ev K E (tC (.int i)) Δ (· = .int i) X := fun q G0 H0 G H σ Q s k _ => k _ _ G H s.rf (.int i) rfl
theorem ev_str {x : Str} : Ev K E (tC (.str x)) Δ (· = .str x) X := fun q G0 H0 G H σ Q s k _ => k _ _ G H s.rf (.str x) rfl
theorem ev_bl {b : Bool} : Ev K E (tC (.bl b)) Δ (· = .bl b) X := fun q G0 H0 G H σ Q s k _ => k _ _ G H s.rf (.bl b) rfl
theorem ev_non : Ev K E (tC .non) Δ (· = .non) X := fun q G0 H0 G H σ Q s k _ => k _ _ G H s.rf .non rfl
/-- a constant of the module that is a tuple -/
theorem ev_ctup {a : Addr} {xs : List V} {ds : List D} (h : ∀ H, SqT K H a xs) (r : ∀ G, RpL K G xs ds) : Ev K E (tC (.ref a)) Δ (· = .tup ds) X := fun q G0 H0 G H σ Q s k _ => k _ _ G H s.rf (.tup (h G) (r G)) rfl
theorem ev_op {r : R2} (ha : Ev K E ta Δ Ra X) (hb : Ev K E tb Δ Rb X) (hr : ∀ x y, Ra x → Rb y → OpD K r x y R) : Ev K E (tOp r ta tb) Δ R X := fun q G0 H0 G H σ Q s k kx =>
  ha q G0 H0 G H σ _ s (fun v x G1 H1 g1 r1 p1 => hb q G0 H0 G1 H1 σ _ (s.go g1) (fun w y G2 H2 g2 r2 p2 =>
    hr x y p1 p2 G2 H2 v w Q g2.sub (r1.ex g2.ex) r2 fun u d G3 H3 g rd p3 => k u d G3 H3 (s.tr (s.tr g1 g2) g.any) rd p3) fun C G' H' g x => kx C G' H' (s.tr g1 g) x) kx
theorem ev_un {r : V → Hp → VK → Prop} (ha : Ev K E ta Δ Ra X) (hr : ∀ x, Ra x → UnD K r x R) : Ev K E (tUn r ta) Δ R X := fun q G0 H0 G H σ Q s k kx =>
  ha q G0 H0 G H σ _ s (fun v x G1 H1 g1 r1 p1 => hr x p1 G1 H1 v Q g1.sub r1 fun u d G3 H3 g rd p3 => k u d G3 H3 (s.tr g1 g.any) rd p3) kx
/-! the same, with one value each -/
theorem ev1_op {r : R2} {x y z : D} (ha : Ev K E ta Δ (· = x) X) (hb : Ev K E tb Δ (· = y) X) (hr : OpD K r x y (· = z)) : Ev K E (tOp r ta tb) Δ (· = z) X := ev_op ha hb fun a b e1 e2 => by subst e1; subst e2; exact hr
theorem ev1_un {r : V → Hp → VK → Prop} {x z : D} (ha : Ev K E ta Δ (· = x) X) (hr : UnD K r x (· = z)) : Ev K E (tUn r ta) Δ (· = z) X := ev_un ha fun a e1 => by subst e1; exact hr
theorem ev_is {d d' : D} (h : Ev K E te Δ (· = d) X) (e : d = d') : Ev K E te Δ (· = d') X := by subst e; exact h
/-! tests -/
theorem et_val {R : Bool → Prop} (h : Ev K E te Δ (fun d => ∃ b, d = .bl b ∧ R b) X) : Et K E (tTest te) Δ R X := fun q G0 H0 G H σ Q s k kx =>
  h q G0 H0 G H σ _ s (fun v d G1 H1 g1 r1 p1 => by
    obtain ⟨b, rfl, hb⟩ := p1
    cases r1
    exact ⟨b, rfl, k b G1 H1 g1 hb⟩) kx
theorem et_B {R : Bool → Prop} (h : Ev K E te Δ (fun d => ∃ b, d = .bl b ∧ R b) X) : Et K E (tB te) Δ R X := et_val h
theorem et1_val {b : Bool} (h : Ev K E te Δ (· = .bl b) X) : Et K E (tTest te) Δ (· = b) X := et_val (h.imp fun d e => ⟨b, e, rfl⟩)
theorem et1_B {b : Bool} (h : Ev K E te Δ (· = .bl b) X) : Et K E (tB te) Δ (· = b) X := et_B (h.imp fun d e => ⟨b, e, rfl⟩)
theorem et_and {R1 R2 R : Bool → Prop} (h1 : Et K E tt Δ R1 X) (h2 : R1 true → Et K E tu Δ R2 X) (t1 : ∀ b, R1 true → R2 b → R b) (t2 : R1 false → R false) : Et K E (tAnd tt tu) Δ R X := fun q G0 H0 G H σ Q s k kx =>
  h1 q G0 H0 G H σ _ s (fun b G1 H1 g1 p1 => by
    cases b with
    | true => exact iteT (h2 p1 q G0 H0 G1 H1 σ Q (s.go g1) (fun c G2 H2 g2 p2 => k c G2 H2 (s.tr g1 g2) (t1 c p1 p2)) fun C G' H' g x => kx C G' H' (s.tr g1 g) x)
    | false => exact iteF (k false G1 H1 g1 (t2 p1))) kx
theorem et_or {R1 R2 R : Bool → Prop} (h1 : Et K E tt Δ R1 X) (h2 : R1 false → Et K E tu Δ R2 X) (t1 : ∀ b, R1 false → R2 b → R b) (t2 : R1 true → R true) : Et K E (tOr tt tu) Δ R X := fun q G0 H0 G H σ Q s k kx =>
  h1 q G0 H0 G H σ _ s (fun b G1 H1 g1 p1 => by
    cases b with
    | false => exact iteF (h2 p1 q G0 H0 G1 H1 σ Q (s.go g1) (fun c G2 H2 g2 p2 => k c G2 H2 (s.tr g1 g2) (t1 c p1 p2)) fun C G' H' g x => kx C G' H' (s.tr g1 g) x)
    | true => exact iteT (k true G1 H1 g1 (t2 p1))) kx
theorem et_not {R : Bool → Prop} (h1 : Et K E tt Δ (fun b => R (!b)) X) : Et K E (tNot tt) Δ R X := fun q G0 H0 G H σ Q s k kx =>
  h1 q G0 H0 G H σ _ s (fun b G1 H1 g1 p1 => k (!b) G1 H1 g1 p1) kx
theorem et1_not {b : Bool} (h1 : Et K E tt Δ (· = b) X) : Et K E (tNot tt) Δ (· = !b) X := et_not (h1.imp fun d e => by rw [e])
theorem et1_and {a b : Bool} (h1 : Et K E tt Δ (· = a) X) (h2 : a = true → Et K E tu Δ (· = b) X) : Et K E (tAnd tt tu) Δ (· = (a && b)) X := by
  cases a with
  | true => exact et_and h1 (fun e => h2 rfl) (fun c e1 e2 => by rw [e2]; rfl) fun e => by cases e
  | false => exact et_and (R2 := fun _ => True) h1 (fun e => by cases e) (fun c e1 e2 => by cases e1) fun e => rfl
theorem et1_or {a b : Bool} (h1 : Et K E tt Δ (· = a) X) (h2 : a = false → Et K E tu Δ (· = b) X) : Et K E (tOr tt tu) Δ (· = (a || b)) X := by
  cases a with
  | false => exact et_or h1 (fun e => h2 rfl) (fun c e1 e2 => by rw [e2]; rfl) fun e => by cases e
  | true => exact et_or (R2 := fun _ => True) h1 (fun e => by cases e) (fun c e1 e2 => by cases e1) fun e => rfl
theorem et_is {b b' : Bool} (h : Et K E tt Δ (· = b) X) (e : b = b') : Et K E tt Δ (· = b') X := by subst e; exact h
/-! and, or, not, if as values -/
theorem ev_andV {R1 : Bool → Prop} (h1 : Ev K E ta Δ (fun d => ∃ b, d = .bl b ∧ R1 b) X) (h2 : R1 true → Ev K E tb Δ R X) (t2 : R1 false → R (.bl false)) : Ev K E (tAndV ta tb) Δ R X := fun q G0 H0 G H σ Q s k kx =>
  h1 q G0 H0 G H σ _ s (fun v d G1 H1 g1 r1 p1 => by
    obtain ⟨b, rfl, p⟩ := p1
    cases r1
    refine ⟨b, rfl, ?_⟩
    cases b with
    | true => exact iteT (h2 p q G0 H0 G1 H1 σ Q (s.go g1) (fun v c G2 H2 g2 r2 p2 => k v c G2 H2 (s.tr g1 g2) r2 p2) fun C G' H' g x => kx C G' H' (s.tr g1 g) x)
    | false => exact iteF (k _ _ G1 H1 g1 (.bl false) (t2 p))) kx
theorem ev_orV {R1 : Bool → Prop} (h1 : Ev K E ta Δ (fun d => ∃ b, d = .bl b ∧ R1 b) X) (h2 : R1 false → Ev K E tb Δ R X) (t2 : R1 true → R (.bl true)) : Ev K E (tOrV ta tb) Δ R X := fun q G0 H0 G H σ Q s k kx =>
  h1 q G0 H0 G H σ _ s (fun v d G1 H1 g1 r1 p1 => by
    obtain ⟨b, rfl, p⟩ := p1
    cases r1
    refine ⟨b, rfl, ?_⟩
    cases b with
    | false => exact iteF (h2 p q G0 H0 G1 H1 σ Q (s.go g1) (fun v c G2 H2 g2 r2 p2 => k v c G2 H2 (s.tr g1 g2) r2 p2) fun C G' H' g x => kx C G' H' (s.tr g1 g) x)
    | true => exact iteT (k _ _ G1 H1 g1 (.bl true) (t2 p))) kx
theorem ev1_andV {a b : Bool} (h1 : Ev K E ta Δ (· = .bl a) X) (h2 : a = true → Ev K E tb Δ (· = .bl b) X) : Ev K E (tAndV ta tb) Δ (· = .bl (a && b)) X := by
  cases a with
  | true => exact ev_andV (R1 := (· = true)) (h1.imp fun d e => ⟨true, e, rfl⟩) (fun e => (h2 rfl).imp fun d z => by rw [z]; rfl) fun e => by cases e
  | false => exact ev_andV (R1 := (· = false)) (h1.imp fun d e => ⟨false, e, rfl⟩) (fun e => by cases e) fun e => rfl
theorem ev1_orV {a b : Bool} (h1 : Ev K E ta Δ (· = .bl a) X) (h2 : a = false → Ev K E tb Δ (· = .bl b) X) : Ev K E (tOrV ta tb) Δ (· = .bl (a || b)) X := by
  cases a with
  | false => exact ev_orV (R1 := (· = false)) (h1.imp fun d e => ⟨false, e, rfl⟩) (fun e => (h2 rfl).imp fun d z => by rw [z]; rfl) fun e => by cases e
  | true => exact ev_orV (R1 := (· = true)) (h1.imp fun d e => ⟨true, e, rfl⟩) (fun e => by cases e) fun e => rfl
theorem ev_notV {R : Bool → Prop} (h1 : Ev K E ta Δ (fun d => ∃ b, d = .bl b ∧ R (!b)) X) : Ev K E (tNotV ta) Δ (fun d => ∃ b, d = .bl b ∧ R b) X := fun q G0 H0 G H σ Q s k kx =>
  h1 q G0 H0 G H σ _ s (fun v d G1 H1 g1 r1 p1 => by
    obtain ⟨b, rfl, p⟩ := p1
    cases r1
    exact ⟨b, rfl, k _ _ G1 H1 g1 (.bl (!b)) ⟨_, rfl, p⟩⟩) kx
theorem ev1_notV {a : Bool} (h1 : Ev K E ta Δ (· = .bl a) X) : Ev K E (tNotV ta) Δ (· = .bl (!a)) X :=
  (ev_notV (R := (· = !a)) (h1.imp fun d e => ⟨a, e, rfl⟩)).imp fun d ⟨b, e1, e2⟩ => by rw [e1, e2]
theorem ev_if {R1 : Bool → Prop} (h : Et K E tt Δ R1 X) (h1 : R1 true → Ev K E ta Δ R X) (h2 : R1 false → Ev K E tb Δ R X) : Ev K E (tIf tt ta tb) Δ R X := fun q G0 H0 G H σ Q s k kx =>
  h q G0 H0 G H σ _ s (fun b G1 H1 g1 p => by
    cases b with
    | true => exact iteT (h1 p q G0 H0 G1 H1 σ Q (s.go g1) (fun v c G2 H2 g2 r2 p2 => k v c G2 H2 (s.tr g1 g2) r2 p2) fun C G' H' g x => kx C G' H' (s.tr g1 g) x)
    | false => exact iteF (h2 p q G0 H0 G1 H1 σ Q (s.go g1) (fun v c G2 H2 g2 r2 p2 => k v c G2 H2 (s.tr g1 g2) r2 p2) fun C G' H' g x => kx C G' H' (s.tr g1 g) x)) kx
theorem ev1_if {b : Bool} {x y : D} (h : Et K E tt Δ (· = b) X) (h1 : b = true → Ev K E ta Δ (· = x) X) (h2 : b = false → Ev K E tb Δ (· = y) X) : Ev K E (tIf tt ta tb) Δ (· = if b = true then x else y) X := by
  cases b with
  | true => exact ev_if h (fun e => (h1 rfl).imp fun d z => z) fun e => by cases e
  | false => exact ev_if h (fun e => by cases e) fun e => (h2 rfl).imp fun d z => z
/-! arguments, displays -/
theorem ea_nil : Ea K E tNil Δ (· = []) X := fun q G0 H0 G H σ Q s k _ => k [] [] G H s.rf .nil rfl
theorem ea_cons {tr : TA} {Rs : List D → Prop} {R' : List D → Prop} (h : Ev K E ta Δ R X) (hr : ∀ d, R d → Ea K E tr Δ Rs X) (t : ∀ d ds, R d → Rs ds → R' (d :: ds)) : Ea K E (tCons ta tr) Δ R' X := fun q G0 H0 G H σ Q s k kx =>
  h q G0 H0 G H σ _ s (fun v d G1 H1 g1 r1 p1 => hr d p1 q G0 H0 G1 H1 σ _ (s.go g1) (fun vs ds G2 H2 g2 r2 p2 => k _ _ G2 H2 (s.tr g1 g2) (.cons (r1.ex g2.ex) r2) (t d ds p1 p2)) fun C G' H' g x => kx C G' H' (s.tr g1 g) x) kx
theorem ea1_cons {tr : TA} {d : D} {ds : List D} (h : Ev K E ta Δ (· = d) X) (hr : Ea K E tr Δ (· = ds) X) : Ea K E (tCons ta tr) Δ (· = d :: ds) X := ea_cons h (fun _ _ => hr) fun a b e1 e2 => by rw [e1, e2]
theorem ev_tup {tr : TA} {Rs : List D → Prop} (h : Ea K E tr Δ Rs X) (hl : ∀ ds, Rs ds → ds.length ≤ sizeLine) (t : ∀ ds, Rs ds → R (.tup ds)) : Ev K E (tTup tr) Δ R X := fun q G0 H0 G H σ Q s k kx =>
  h q G0 H0 G H σ _ s (fun vs ds G1 H1 g1 r1 p1 => ⟨by rw [r1.length]; exact hl ds p1, fun p hp =>
    have g := Gr.new (o := .tup vs) g1.sub hp
    k _ _ _ _ (s.tr g1 g.any) (.tup (.inl (.inl upd_same)) (r1.ex g.ex)) (t ds p1)⟩) kx
theorem ev_lst {tr : TA} {Rs : List D → Prop} (h : Ea K E tr Δ Rs X) (hl : ∀ ds, Rs ds → ds.length ≤ sizeLine) (t : ∀ ds, Rs ds → R (.lst ds)) : Ev K E (tLst tr) Δ R X := fun q G0 H0 G H σ Q s k kx =>
  h q G0 H0 G H σ _ s (fun vs ds G1 H1 g1 r1 p1 => ⟨by rw [r1.length]; exact hl ds p1, fun p hp =>
    have g := Gr.new (o := .lst vs) g1.sub hp
    k _ _ _ _ (s.tr g1 g.any) (.lst upd_same (r1.ex g.ex)) (t ds p1)⟩) kx
theorem szl {n : Nat} (h : n ≤ 1000000 := by first | decide | (simp; done)) : n ≤ sizeLine := Nat.le_trans h (by rw [sizeLine_eq]; decide)
theorem szlt {n : Nat} (h : n < 1000000) : n < sizeLine := Nat.lt_of_lt_of_le h (by rw [sizeLine_eq]; decide)
theorem ev1_tup {tr : TA} {ds : List D} (h : Ea K E tr Δ (· = ds) X) (hl : ds.length ≤ sizeLine := by exact szl) : Ev K E (tTup tr) Δ (· = .tup ds) X := ev_tup h (fun _ e => by rw [e]; exact hl) fun _ e => by rw [e]
theorem ev1_lst {tr : TA} {ds : List D} (h : Ea K E tr Δ (· = ds) X) (hl : ds.length ≤ sizeLine := by exact szl) : Ev K E (tLst tr) Δ (· = .lst ds) X := ev_lst h (fun _ e => by rw [e]; exact hl) fun _ e => by rw [e]
theorem ev_cb {r : List V → Hp → VK → Prop} {tr : TA} {Rs : List D → Prop} (h : Ea K E tr Δ Rs X) (hr : ∀ ds, Rs ds → CbD K r ds R) : Ev K E (tCB r tr) Δ R X := fun q G0 H0 G H σ Q s k kx =>
  h q G0 H0 G H σ _ s (fun vs ds G1 H1 g1 r1 p1 => hr ds p1 G1 H1 vs Q g1.sub r1 fun u d G3 H3 g rd p3 => k u d G3 H3 (s.tr g1 g.any) rd p3) kx
theorem ev1_cb {r : List V → Hp → VK → Prop} {tr : TA} {ds : List D} {d : D} (h : Ea K E tr Δ (· = ds) X) (hr : CbD K r ds (· = d)) : Ev K E (tCB r tr) Δ (· = d) X := ev_cb h fun _ e => by subst e; exact hr
/-! slices -/
theorem eo_none : Eo K E tNoPart Δ (· = none) X := fun q G0 H0 G H σ Q s k _ => k none G H s.rf rfl
theorem eo_some {Ro : Option Int → Prop} (h : Ev K E te Δ (fun d => ∃ i, d = .int i ∧ Ro (some i)) X) : Eo K E (tPart te) Δ Ro X := fun q G0 H0 G H σ Q s k kx =>
  h q G0 H0 G H σ _ s (fun v d G1 H1 g1 r1 p1 => by
    obtain ⟨i, rfl, p⟩ := p1
    cases r1
    exact ⟨i, rfl, k _ G1 H1 g1 p⟩) kx
theorem eo1_some {i : Int} (h : Ev K E te Δ (· = .int i) X) : Eo K E (tPart te) Δ (· = some i) X := eo_some (h.imp fun d e => ⟨i, e, rfl⟩)
theorem ev_sl {r : V → Option Int → Option Int → Hp → VK → Prop} {tl th : TO} {Rl Rh : Option Int → Prop} (h : Ev K E te Δ Ra X) (h1 : Eo K E tl Δ Rl X) (h2 : Eo K E th Δ Rh X) (hr : ∀ x l u, Ra x → Rl l → Rh u → SlD K r x l u R) : Ev K E (tSl r te tl th) Δ R X := fun q G0 H0 G H σ Q s k kx =>
  h q G0 H0 G H σ _ s (fun v x G1 H1 g1 r1 p1 => h1 q G0 H0 G1 H1 σ _ (s.go g1) (fun l G2 H2 g2 p2 => h2 q G0 H0 G2 H2 σ _ (s.go (s.tr g1 g2)) (fun u G3 H3 g3 p3 =>
    hr x l u p1 p2 p3 G3 H3 v Q g3.sub (r1.ex (g2.ex.trans g3.ex)) fun z d G4 H4 g rd p4 => k z d G4 H4 (s.tr (s.tr (s.tr g1 g2) g3) g.any) rd p4) fun C G' H' g x => kx C G' H' (s.tr (s.tr g1 g2) g) x) fun C G' H' g x => kx C G' H' (s.tr g1 g) x) kx
theorem ev1_sl {r : V → Option Int → Option Int → Hp → VK → Prop} {tl th : TO} {lo hi : Option Int} {x d : D} (h : Ev K E te Δ (· = x) X) (h1 : Eo K E tl Δ (· = lo) X) (h2 : Eo K E th Δ (· = hi) X) (hr : SlD K r x lo hi (· = d)) : Ev K E (tSl r te tl th) Δ (· = d) X :=
  ev_sl h h1 h2 fun a b c e1 e2 e3 => by subst e1; subst e2; subst e3; exact hr
/-! fields of a frozen instance -/
theorem ev_fld {f : Str} {C : Addr} {fs : List (Str × D)} {d : D} (h : Ev K E ta Δ (· = .obj C fs) X) (hc : Cls K C) (hn : NoAttr K C f) (hl : fs.lookup f = some d) : Ev K E (tFld K ta f) Δ (· = d) X := fun q G0 H0 G H σ Q s k kx =>
  h q G0 H0 G H σ _ s (fun v x G1 H1 g1 r1 p1 => by
    subst p1
    obtain ⟨a, dx, vs, rfl, ho, rf⟩ := r1.obj_inv
    obtain ⟨u, hu, ru⟩ := rf.look hl
    exact ⟨a, C, dx, vs, u, rfl, g1.sub.i ho, hc, hn, hu, k u d G1 H1 g1 ru rfl⟩) kx

/-! ### calls: promises over data -/
inductive Res where
  | ret (d : D) | exc (C : Addr)
/-- a def of data -/
def spD (K : PySem.W.Frag) (pre : List D → Prop) (post : List D → Res → Prop) : Sp := fun vs H Q E => ∃ (G : Hp) (ds : List D), Exx G H ∧ RpL K G vs ds ∧ pre ds ∧
  (∀ (v : V) (d : D) (G' H' : Hp), Gr none G H G' H' → Rp K G' v d → post ds (.ret d) → Q v H') ∧ (∀ (C : Addr) (G' H' : Hp), Gr none G H G' H' → post ds (.exc C) → E (.ref C) none H')
/-- a def that gets the dice ahead of data -/
def spQ (K : PySem.W.Frag) (T : Tb) (pre : List D → Prop) (post : List D → Res → Prop) : Sp := fun vs H Q E => ∃ (G : Hp) (a : Addr) (ws : List V) (ds : List D), vs = .ref a :: ws ∧ Exx G H ∧ Nt G a ∧ (DiceAt H a ∧ LamX.Tabs T H) ∧ RpL K G ws ds ∧ pre ds ∧
  (∀ (v : V) (d : D) (G' H' : Hp), Gr (some (a, T)) G H G' H' → Rp K G' v d → post ds (.ret d) → Q v H') ∧ (∀ (C : Addr) (G' H' : Hp), Gr (some (a, T)) G H G' H' → post ds (.exc C) → E (.ref C) none H')
theorem ev_call {tr : TA} {Rs : List D → Prop} {pre : List D → Prop} {post : List D → Res → Prop} (h : Ea K E tr Δ Rs X) (hp : ∀ ds, Rs ds → pre ds) (hr : ∀ ds d, Rs ds → post ds (.ret d) → R d) (hx : ∀ ds C, Rs ds → post ds (.exc C) → X C) :
    Ev K E (tCallS (spD K pre post) E tr) Δ R X := fun q G0 H0 G H σ Q s k kx =>
  h q G0 H0 G H σ _ s (fun vs ds G1 H1 g1 r1 p1 => ⟨G1, ds, g1.sub, r1, hp ds p1, fun v d G' H' g rd po => k v d G' H' (s.tr g1 g.any) rd (hr ds d p1 po), fun C G' H' g po => kx C G' H' (s.tr g1 g.any) (hx ds C p1 po)⟩) kx
theorem ev1_call {tr : TA} {ds : List D} {pre : List D → Prop} {post : List D → Res → Prop} {d : D} (h : Ea K E tr Δ (· = ds) X) (hp : pre ds) (hr : ∀ e, post ds (.ret e) → e = d) (hx : ∀ C, post ds (.exc C) → X C) :
    Ev K E (tCallS (spD K pre post) E tr) Δ (· = d) X := ev_call h (fun _ e => by rw [e]; exact hp) (fun _ e z => by rw [z]; exact hr e) fun _ C z => by rw [z]; exact hx C
theorem ev_callq {tr : TA} {Rs : List D → Prop} {pre : List D → Prop} {post : List D → Res → Prop} {i : Nat} {T : Tb} (hi : Δ[i]? = some (Sl.dice T)) (h : Ea K E tr Δ Rs X) (hp : ∀ ds, Rs ds → pre ds) (hr : ∀ ds d, Rs ds → post ds (.ret d) → R d)
    (hx : ∀ ds C, Rs ds → post ds (.exc C) → X C) : Ev K E (tCallS (spQ K T pre post) E (tCons (tVar i) tr)) Δ R X := fun q G0 H0 G H σ Q s k kx => by
  obtain ⟨a, rfl, ha⟩ := s.rs.dice i T hi
  refine ⟨_, ha, ?_⟩
  refine h (some (a, T)) G0 H0 G H σ _ s (fun vs ds G1 H1 g1 r1 p1 => ?_) kx
  obtain ⟨n1, d1⟩ := (s.go g1).rs.gq a T rfl
  exact ⟨G1, a, vs, ds, rfl, g1.sub, n1, d1, r1, hp ds p1, fun v d G' H' g rd po => k v d G' H' (s.tr g1 g) rd (hr ds d p1 po), fun C G' H' g po => kx C G' H' (s.tr g1 g) (hx ds C p1 po)⟩
end
end Ts


namespace Ts
open PySem L2

/-! ### statements -/
inductive Out where
  | nx (Δ : En) | rt (d : D) | bk (Δ : En) | ct (Δ : En) | ex (C : Addr) (Δ : En)
def Xs (K : PySem.W.Frag) (W : WX) (t : TS) (Δ : En) (post : Out → Prop) : Prop :=
  ∀ (q : Qd) (G0 H0 G H : Hp) (σ : L2.St) (T : Ends), Sta K q G0 H0 G H σ Δ →
    (∀ (σ' : L2.St) (Δ' : En) (G' H' : Hp), Exx G G' → Sta K q G0 H0 G' H' σ' Δ' → post (.nx Δ') → T.nx σ' H') →
    (∀ (v : V) (d : D) (G' H' : Hp), Gr q G0 H0 G' H' → Rp K G' v d → post (.rt d) → T.rt v H') →
    (∀ (σ' : L2.St) (Δ' : En) (G' H' : Hp), Exx G G' → Sta K q G0 H0 G' H' σ' Δ' → post (.bk Δ') → T.bk σ' H') →
    (∀ (σ' : L2.St) (Δ' : En) (G' H' : Hp), Exx G G' → Sta K q G0 H0 G' H' σ' Δ' → post (.ct Δ') → T.ct σ' H') →
    (∀ (C : Addr) (σ' : L2.St) (Δ' : En) (G' H' : Hp), Exx G G' → Sta K q G0 H0 G' H' σ' Δ' → post (.ex C Δ') → W (.ref C) none σ' H') → t T σ H
def thenP (K : PySem.W.Frag) (W : WX) (u : TS) (post : Out → Prop) : Out → Prop
  | .nx Δ => Xs K W u Δ post
  | o => post o
section
variable {K : PySem.W.Frag} {W : WX} {Δ : En} {t u : TS} {post post' : Out → Prop} {te ta tb : TE} {tt : TT} {R : D → Prop} {X : Addr → Prop}
theorem Xs.imp (h : Xs K W t Δ post) (hp : ∀ o, post o → post' o) : Xs K W t Δ post' := fun q G0 H0 G H σ T s k1 k2 k3 k4 k5 =>
  h q G0 H0 G H σ T s (fun σ' Δ' G' H' e s' p => k1 σ' Δ' G' H' e s' (hp _ p)) (fun v d G' H' g r p => k2 v d G' H' g r (hp _ p)) (fun σ' Δ' G' H' e s' p => k3 σ' Δ' G' H' e s' (hp _ p)) (fun σ' Δ' G' H' e s' p => k4 σ' Δ' G' H' e s' (hp _ p))
    fun C σ' Δ' G' H' e s' p => k5 C σ' Δ' G' H' e s' (hp _ p)
theorem xs_seq (h : Xs K W t Δ (thenP K W u post)) : Xs K W (tSeq t u) Δ post := fun q G0 H0 G H σ T s k1 k2 k3 k4 k5 =>
  h q G0 H0 G H σ { T with nx := u T } s (fun σ' Δ' G' H' e s' p => (show Xs K W u Δ' post from p) q G0 H0 G' H' σ' T s' (fun σ2 Δ2 G2 H2 e2 s2 p2 => k1 σ2 Δ2 G2 H2 (e.trans e2) s2 p2) k2 (fun σ2 Δ2 G2 H2 e2 s2 p2 => k3 σ2 Δ2 G2 H2 (e.trans e2) s2 p2)
    (fun σ2 Δ2 G2 H2 e2 s2 p2 => k4 σ2 Δ2 G2 H2 (e.trans e2) s2 p2) fun C σ2 Δ2 G2 H2 e2 s2 p2 => k5 C σ2 Δ2 G2 H2 (e.trans e2) s2 p2) k2 k3 k4 k5
theorem xs_next (h : post (.nx Δ)) : Xs K W tNext Δ post := fun q G0 H0 G H σ T s k1 k2 k3 k4 k5 => k1 σ Δ G H (Exx.refl _) s h
theorem xs_brk (h : post (.bk Δ)) : Xs K W tBreak Δ post := fun q G0 H0 G H σ T s k1 k2 k3 k4 k5 => k3 σ Δ G H (Exx.refl _) s h
theorem xs_cont (h : post (.ct Δ)) : Xs K W tCont Δ post := fun q G0 H0 G H σ T s k1 k2 k3 k4 k5 => k4 σ Δ G H (Exx.refl _) s h
theorem xs_expr (h : Ev K (WE W) te Δ R X) (hx : ∀ C, X C → post (.ex C Δ)) (k : post (.nx Δ)) : Xs K W (tDrop te) Δ post := fun q G0 H0 G H σ T s k1 k2 k3 k4 k5 =>
  h q G0 H0 G H σ _ s (fun v d G1 H1 g1 r1 p1 => k1 σ Δ G1 H1 g1.ex (s.go g1) k) fun C G1 H1 g x => k5 C σ Δ G1 H1 g.ex (s.go g) (hx C x)
theorem xs_ret (h : Ev K (WE W) te Δ R X) (hx : ∀ C, X C → post (.ex C Δ)) (k : ∀ d, R d → post (.rt d)) : Xs K W (tRet te) Δ post := fun q G0 H0 G H σ T s k1 k2 k3 k4 k5 =>
  h q G0 H0 G H σ _ s (fun v d G1 H1 g1 r1 p1 => k2 v d G1 H1 (s.go g1).gr r1 (k d p1)) fun C G1 H1 g x => k5 C σ Δ G1 H1 g.ex (s.go g) (hx C x)
theorem xs1_ret {d : D} (h : Ev K (WE W) te Δ (· = d) fun _ => False) (k : post (.rt d)) : Xs K W (tRet te) Δ post := xs_ret h (fun _ z => z.elim) fun e z => by rw [z]; exact k
theorem xs_retN (k : post (.rt .non)) : Xs K W tRetN Δ post := fun q G0 H0 G H σ T s k1 k2 k3 k4 k5 => k2 .non .non G H s.gr .non k
theorem xs_asg {i : Nat} (h : Ev K (WE W) te Δ R X) (hx : ∀ C, X C → post (.ex C Δ)) (k : ∀ d, R d → post (.nx (Δ.set i (.dat d)))) : Xs K W (tAsg te (gName i)) Δ post := fun q G0 H0 G H σ T s k1 k2 k3 k4 k5 =>
  h q G0 H0 G H σ _ s (fun v d G1 H1 g1 r1 p1 => k1 _ _ G1 H1 g1.ex ((s.go g1).set r1) (k d p1)) fun C G1 H1 g x => k5 C σ Δ G1 H1 g.ex (s.go g) (hx C x)
theorem xs1_asg {i : Nat} {d : D} (h : Ev K (WE W) te Δ (· = d) fun _ => False) (k : post (.nx (Δ.set i (.dat d)))) : Xs K W (tAsg te (gName i)) Δ post := xs_asg h (fun _ z => z.elim) fun e z => by rw [z]; exact k
theorem xs_if {Rt : Bool → Prop} (h : Et K (WE W) tt Δ Rt X) (hx : ∀ C, X C → post (.ex C Δ)) (h1 : Rt true → Xs K W t Δ post) (h2 : Rt false → Xs K W u Δ post) : Xs K W (tIfS tt t u) Δ post := fun q G0 H0 G H σ T s k1 k2 k3 k4 k5 =>
  h q G0 H0 G H σ _ s (fun b G1 H1 g1 p1 => by
    have go : ∀ {z : TS}, Xs K W z Δ post → z T σ H1 := fun {z} hz => hz q G0 H0 G1 H1 σ T (s.go g1) (fun σ2 Δ2 G2 H2 e2 s2 p2 => k1 σ2 Δ2 G2 H2 (g1.ex.trans e2) s2 p2) k2 (fun σ2 Δ2 G2 H2 e2 s2 p2 => k3 σ2 Δ2 G2 H2 (g1.ex.trans e2) s2 p2)
      (fun σ2 Δ2 G2 H2 e2 s2 p2 => k4 σ2 Δ2 G2 H2 (g1.ex.trans e2) s2 p2) fun C σ2 Δ2 G2 H2 e2 s2 p2 => k5 C σ2 Δ2 G2 H2 (g1.ex.trans e2) s2 p2
    cases b with
    | true => exact iteT (go (h1 p1))
    | false => exact iteF (go (h2 p1))) fun C G1 H1 g x => k5 C σ Δ G1 H1 g.ex (s.go g) (hx C x)
theorem xs1_if {b : Bool} (h : Et K (WE W) tt Δ (· = b) fun _ => False) (h1 : b = true → Xs K W t Δ post) (h2 : b = false → Xs K W u Δ post) : Xs K W (tIfS tt t u) Δ post := xs_if h (fun _ z => z.elim) (fun e => h1 e.symm) fun e => h2 e.symm
/-! own lists -/
theorem xs_new {i : Nat} {tr : TA} {Rs : List D → Prop} (h : Ea K (WE W) tr Δ Rs X) (hx : ∀ C, X C → post (.ex C Δ)) (hl : ∀ ds, Rs ds → ds.length ≤ sizeLine) (k : ∀ ds, Rs ds → post (.nx (Δ.set i (.own ds)))) : Xs K W (tAsg (tLst tr) (gName i)) Δ post := fun q G0 H0 G H σ T s k1 k2 k3 k4 k5 =>
  h q G0 H0 G H σ _ s (fun vs ds G1 H1 g1 r1 p1 => ⟨by rw [r1.length]; exact hl ds p1, fun p hp => k1 _ _ G1 _ g1.ex ((s.go g1).newMut hp r1) (k ds p1)⟩) fun C G1 H1 g x => k5 C σ Δ G1 H1 g.ex (s.go g) (hx C x)
theorem xs_new0 {i : Nat} (k : post (.nx (Δ.set i (.own [])))) : Xs K W (tAsg (tLst tNil) (gName i)) Δ post := xs_new (X := fun _ => False) ea_nil (fun _ z => z.elim) (fun _ e => by rw [e]; exact szl) fun ds e => by rw [e]; exact k
theorem xs_freeze {i : Nat} {ds : List D} (hi : Δ[i]? = some (Sl.own ds)) (h : Xs K W t (Δ.set i (.dat (.lst ds))) post) : Xs K W t Δ post := fun q G0 H0 G H σ T s k1 k2 k3 k4 k5 => by
  obtain ⟨G1, e1, s1⟩ := s.freeze hi
  exact h q G0 H0 G1 H σ T s1 (fun σ2 Δ2 G2 H2 e2 s2 p2 => k1 σ2 Δ2 G2 H2 (e1.trans e2) s2 p2) k2 (fun σ2 Δ2 G2 H2 e2 s2 p2 => k3 σ2 Δ2 G2 H2 (e1.trans e2) s2 p2)
      (fun σ2 Δ2 G2 H2 e2 s2 p2 => k4 σ2 Δ2 G2 H2 (e1.trans e2) s2 p2) fun C σ2 Δ2 G2 H2 e2 s2 p2 => k5 C σ2 Δ2 G2 H2 (e1.trans e2) s2 p2
theorem xs_ret_own {i : Nat} {ds : List D} (hi : Δ[i]? = some (Sl.own ds)) (k : post (.rt (.lst ds))) : Xs K W (tRet (tVar i)) Δ post :=
  xs_freeze hi (xs1_ret (ev_var (by
    have hl : i < Δ.length := (List.getElem?_eq_some_iff.mp hi).1
    exact List.getElem?_set_self hl)) k)
/-- xs.append(e), xs a list of one's own -/
theorem xs_app {i : Nat} {ds : List D} (hi : Δ[i]? = some (Sl.own ds)) (hl : ds.length < sizeLine) (h : Ev K (WE W) te Δ R X) (hx : ∀ C, X C → post (.ex C Δ)) (k : ∀ d, R d → post (.nx (Δ.set i (.own (ds ++ [d]))))) :
    Xs K W (tDrop (tBM K "list" rAppend (tVar i) (tCons te tNil))) Δ post := fun q G0 H0 G H σ T s k1 k2 k3 k4 k5 => by
  obtain ⟨p, vs, h1, h2, h3, h4, h5, h6⟩ := s.rs.own i ds hi
  refine ⟨_, h1, .inl ⟨rfl, vs, .inl (.inl h2)⟩, ?_⟩
  refine h q G0 H0 G H σ _ s (fun v d G1 H1 g1 r1 p1 => ?_) fun C G1 H1 g x => k5 C σ Δ G1 H1 g.ex (s.go g) (hx C x)
  have s1 := s.go g1
  refine ⟨p, vs, v, rfl, rfl, g1.kl h6 h2, by rw [h3.length]; exact hl, ?_⟩
  exact k1 σ _ G1 _ g1.ex (s1.change hi h1 ((h3.ex g1.ex).append (.cons r1 .nil))) (k d p1)
theorem xs1_app {i : Nat} {ds : List D} {d : D} (hi : Δ[i]? = some (Sl.own ds)) (hl : ds.length < sizeLine) (h : Ev K (WE W) te Δ (· = d) fun _ => False) (k : post (.nx (Δ.set i (.own (ds ++ [d]))))) :
    Xs K W (tDrop (tBM K "list" rAppend (tVar i) (tCons te tNil))) Δ post := xs_app hi hl h (fun _ z => z.elim) fun e z => by rw [z]; exact k
/-- the length, an item of a list of one's own -/
def rLenC (K : PySem.W.Frag) : List V → Hp → VK → Prop := fun xs H Q => ∃ x n, xs = [x] ∧ LenV K x H n ∧ Q (.int n) H
theorem ev_len_own {E : L2.St → XK} {i : Nat} {ds : List D} (hi : Δ[i]? = some (Sl.own ds)) : Ev K E (tCB (rLenC K) (tCons (tVar i) tNil)) Δ (· = .int ds.length) X := fun q G0 H0 G H σ Q s k kx => by
  obtain ⟨p, vs, h1, h2, h3, h4, h5, h6⟩ := s.rs.own i ds hi
  exact ⟨_, h1, _, vs.length, rfl, .inl ⟨vs, .inl (.inl h2), rfl⟩, by rw [h3.length]; exact k _ _ G H s.rf (.int _) rfl⟩
theorem ev_ix_own {E : L2.St → XK} {i : Nat} {ds : List D} {j : Int} {d : D} (hi : Δ[i]? = some (Sl.own ds)) (h : Ev K E te Δ (· = .int j) X) (hd : atI ds j = some d) : Ev K E (tOp (rIx K) (tVar i) te) Δ (· = d) X := fun q G0 H0 G H σ Q s k kx => by
  obtain ⟨p, vs, h1, h2, h3, h4, h5, h6⟩ := s.rs.own i ds hi
  refine ⟨_, h1, ?_⟩
  refine h q G0 H0 G H σ _ s (fun v z G1 H1 g1 r1 p1 => ?_) kx
  subst p1
  cases r1
  have a1 : ∃ v, atI vs j = some v ∧ Rp K G v d := by
    unfold atI at hd ⊢
    rw [h3.length]
    cases e : ixN ds.length j with
    | none => rw [e] at hd; cases hd
    | some l =>
      rw [e] at hd
      exact h3.get hd
  obtain ⟨v, a2, a3⟩ := a1
  exact .inl ⟨p, vs, j, v, rfl, rfl, .inl (.inl (g1.kl h6 h2)), a2, k v d G1 H1 g1 (a3.ex g1.ex) rfl⟩

/-! ### targets -/
/-- the target g takes d; it stores at js -/
def Tg (K : PySem.W.Frag) (g : TG) (js : List Nat) (Δ : En) (d : D) (Δ' : En) : Prop := ∀ (q : Qd) (G0 H0 G H : Hp) (σ : L2.St) (v : V) (Q : L2.St → Hp → Prop), Sta K q G0 H0 G H σ Δ → Rp K G v d →
  (∀ σ', Sta K q G0 H0 G H σ' Δ' → (∀ vs : List Nat, (∀ j ∈ js, j ∈ vs) → wipe σ' vs = wipe σ vs) → Q σ' H) → g v σ H Q
def TgS (K : PySem.W.Frag) (g : TGs) (js : List Nat) (Δ : En) (ds : List D) (Δ' : En) : Prop := ∀ (q : Qd) (G0 H0 G H : Hp) (σ : L2.St) (vs : List V) (Q : L2.St → Hp → Prop), Sta K q G0 H0 G H σ Δ → RpL K G vs ds →
  (∀ σ', Sta K q G0 H0 G H σ' Δ' → (∀ vs : List Nat, (∀ j ∈ js, j ∈ vs) → wipe σ' vs = wipe σ vs) → Q σ' H) → g vs σ H Q
theorem wipe_set_in {σ : L2.St} {j : Nat} {x : Option V} : ∀ {vs : List Nat}, j ∈ vs → wipe (σ.set j x) vs = wipe σ vs
  | v :: vs, h => by
    unfold wipe
    by_cases c : j ∈ vs
    · rw [wipe_set_in c]
    · have e : j = v := by
        rcases List.mem_cons.mp h with e | e
        · exact e
        · exact absurd e c
      subst e
      have : wipe (σ.set j x) vs = (wipe σ vs).set j x := by
        clear h
        induction vs with
        | nil => rfl
        | cons w ws ih =>
          have n1 : j ≠ w := fun z => c (by rw [z]; exact List.mem_cons_self)
          have n2 : j ∉ ws := fun z => c (List.mem_cons_of_mem _ z)
          unfold wipe
          rw [ih n2, List.set_comm _ _ n1]
      rw [this, List.set_set]
theorem tg_name {i : Nat} {d : D} : Tg K (gName i) [i] Δ d (Δ.set i (.dat d)) := fun q G0 H0 G H σ v Q s r k => k _ (s.set r) fun vs h => wipe_set_in (h i List.mem_cons_self)
theorem tgs_nil : TgS K gNil [] Δ [] Δ := fun q G0 H0 G H σ vs Q s r k => by
  cases r
  exact ⟨rfl, k _ s fun _ _ => rfl⟩
theorem tgs_cons {g : TG} {gs : TGs} {js js' : List Nat} {d : D} {ds : List D} {Δ1 Δ2 : En} (h : Tg K g js Δ d Δ1) (hs : TgS K gs js' Δ1 ds Δ2) : TgS K (gCons g gs) (js ++ js') Δ (d :: ds) Δ2 := fun q G0 H0 G H σ vs Q s r k => by
  cases r with
  | cons r1 r2 =>
    exact ⟨_, _, rfl, h q G0 H0 G H σ _ _ s r1 fun σ1 s1 w1 => hs q G0 H0 G H σ1 _ Q s1 r2 fun σ2 s2 w2 => k σ2 s2 fun vs hv => (w2 vs fun j hj => hv j (List.mem_append_right _ hj)).trans (w1 vs fun j hj => hv j (List.mem_append_left _ hj))⟩
theorem tg_tup {gs : TGs} {js : List Nat} {n : Nat} {ds : List D} {Δ1 : En} (h : TgS K gs js Δ ds Δ1) (hn : ds.length = n) : Tg K (gTup K n gs) js Δ (.tup ds) Δ1 := fun q G0 H0 G H σ v Q s r k => by
  obtain ⟨a, xs, rfl, h1, h2⟩ := r.tup_inv
  exact ⟨a, xs, rfl, st_ex s.sub h1, by rw [h2.length]; exact hn, h q G0 H0 G H σ xs Q s h2 k⟩
theorem tg2 {i j : Nat} {a b : D} : Tg K (gTup K 2 (gCons (gName i) (gCons (gName j) gNil))) [i, j] Δ (.tup [a, b]) ((Δ.set i (.dat a)).set j (.dat b)) := tg_tup (tgs_cons tg_name (tgs_cons tg_name tgs_nil)) rfl
theorem tg3 {i j l : Nat} {a b c : D} : Tg K (gTup K 3 (gCons (gName i) (gCons (gName j) (gCons (gName l) gNil)))) [i, j, l] Δ (.tup [a, b, c]) (((Δ.set i (.dat a)).set j (.dat b)).set l (.dat c)) := tg_tup (tgs_cons tg_name (tgs_cons tg_name (tgs_cons tg_name tgs_nil))) rfl
theorem xs_asgT {g : TG} {js : List Nat} (h : Ev K (WE W) te Δ R X) (hx : ∀ C, X C → post (.ex C Δ)) (k : ∀ d, R d → ∃ Δ', Tg K g js Δ d Δ' ∧ post (.nx Δ')) : Xs K W (tAsg te g) Δ post := fun q G0 H0 G H σ T s k1 k2 k3 k4 k5 =>
  h q G0 H0 G H σ _ s (fun v d G1 H1 g1 r1 p1 => by
    obtain ⟨Δ', ht, hp⟩ := k d p1
    exact ht q G0 H0 G1 H1 σ v _ (s.go g1) r1 fun σ' s' _ => k1 σ' Δ' G1 H1 g1.ex s' hp) fun C G1 H1 g x => k5 C σ Δ G1 H1 g.ex (s.go g) (hx C x)
theorem xs1_asgT {g : TG} {js : List Nat} {d : D} {Δ' : En} (h : Ev K (WE W) te Δ (· = d) fun _ => False) (ht : Tg K g js Δ d Δ') (k : post (.nx Δ')) : Xs K W (tAsg te g) Δ post := xs_asgT h (fun _ z => z.elim) fun e z => ⟨Δ', by rw [z]; exact ht, k⟩
/-- a, b = x, y -/
theorem xs_par {i j : Nat} {tr : TA} {Rs : List D → Prop} (h : Ea K (WE W) tr Δ Rs X) (hx : ∀ C, X C → post (.ex C Δ)) (k : ∀ ds, Rs ds → ∃ a b, ds = [a, b] ∧ post (.nx ((Δ.set i (.dat a)).set j (.dat b)))) : Xs K W (tPar i j tr) Δ post := fun q G0 H0 G H σ T s k1 k2 k3 k4 k5 =>
  h q G0 H0 G H σ _ s (fun vs ds G1 H1 g1 r1 p1 => by
    obtain ⟨a, b, rfl, hp⟩ := k ds p1
    cases r1 with
    | cons ra rr =>
      cases rr with
      | cons rb rr =>
        cases rr
        exact ⟨_, _, rfl, k1 _ _ G1 H1 g1.ex (((s.go g1).set ra).set rb) hp⟩) fun C G1 H1 g x => k5 C σ Δ G1 H1 g.ex (s.go g) (hx C x)
theorem xs1_par {i j : Nat} {tr : TA} {a b : D} (h : Ea K (WE W) tr Δ (· = [a, b]) fun _ => False) (k : post (.nx ((Δ.set i (.dat a)).set j (.dat b)))) : Xs K W (tPar i j tr) Δ post := xs_par h (fun _ z => z.elim) fun ds z => ⟨a, b, z, k⟩
theorem xs_par3 {i j l : Nat} {tr : TA} {Rs : List D → Prop} (h : Ea K (WE W) tr Δ Rs X) (hx : ∀ C, X C → post (.ex C Δ)) (k : ∀ ds, Rs ds → ∃ a b c, ds = [a, b, c] ∧ post (.nx (((Δ.set i (.dat a)).set j (.dat b)).set l (.dat c)))) : Xs K W (tPar3 i j l tr) Δ post := fun q G0 H0 G H σ T s k1 k2 k3 k4 k5 =>
  h q G0 H0 G H σ _ s (fun vs ds G1 H1 g1 r1 p1 => by
    obtain ⟨a, b, c, rfl, hp⟩ := k ds p1
    cases r1 with
    | cons ra rr =>
      cases rr with
      | cons rb rr =>
        cases rr with
        | cons rc rr =>
          cases rr
          exact ⟨_, _, _, rfl, k1 _ _ G1 H1 g1.ex ((((s.go g1).set ra).set rb).set rc) hp⟩) fun C G1 H1 g x => k5 C σ Δ G1 H1 g.ex (s.go g) (hx C x)
theorem xs1_par3 {i j l : Nat} {tr : TA} {a b c : D} (h : Ea K (WE W) tr Δ (· = [a, b, c]) fun _ => False) (k : post (.nx (((Δ.set i (.dat a)).set j (.dat b)).set l (.dat c)))) : Xs K W (tPar3 i j l tr) Δ post := xs_par3 h (fun _ z => z.elim) fun ds z => ⟨a, b, c, z, k⟩
/-- a, b = [], y, the list one's own -/
theorem xs_par0 {i j : Nat} (hij : i ≠ j) (h : Ev K (WE W) te Δ R X) (hx : ∀ C, X C → post (.ex C Δ)) (k : ∀ d, R d → post (.nx ((Δ.set j (.dat d)).set i (.own [])))) : Xs K W (tPar i j (tCons (tLst tNil) (tCons te tNil))) Δ post := fun q G0 H0 G H σ T s k1 k2 k3 k4 k5 => by
  refine ⟨Nat.zero_le _, fun p hp => ?_⟩
  have g0 : Gr none G H G (upd H p (.lst [])) :=
    ⟨Exx.refl G, fun _ _ e => .inl e, fun a o e nt => by rw [upd_ne (ne_of_none (s.sub a o e nt) hp)]; exact s.sub a o e nt, fun a o _ e _ => by rw [upd_ne (ne_of_none e hp)]; exact e, fun _ => Tbd.new hp, fun _ _ z => nomatch z⟩
  have s0 := s.go g0.any
  have hGp : Nt G p := fun o c => Classical.byContradiction fun n => by
    rw [s.sub p o c (fun ps z => n ⟨ps, z⟩)] at hp; cases hp
  have hH0 : Nt H0 p := s.gr.live s.hq (.of hp)
  have hqp : ∀ T, q ≠ some (p, T) := fun T c => by
    obtain ⟨x, y, z, e⟩ := (s.dq p T c).1
    rw [hp] at e; cases e
  refine h q G0 H0 G _ σ _ s0 (fun v d G1 H1 g1 r1 p1 => ?_) fun C G1 H1 g x => k5 C σ Δ G1 H1 g.ex (s0.go g) (hx C x)
  have s1 := s0.go g1
  have hp1 : H1 p = some (.lst []) := g1.kl hqp upd_same
  have hG1 : Nt G1 p := g1.un hGp upd_same
  have other : ∀ (l : Nat) (as : List D), Δ[l]? = some (Sl.own as) → σ[l]? ≠ some (some (V.ref p)) := fun l as e z => by
    obtain ⟨p3, vs3, a1, a2, _⟩ := s.rs.own l as e
    rw [a1] at z
    cases z
    rw [hp] at a2; cases a2
  have s2 := s1.set (i := j) r1
  have e1 : (σ.set i (some (V.ref p))).set j (some v) = (σ.set j (some v)).set i (some (V.ref p)) := List.set_comm _ _ hij
  refine ⟨_, _, rfl, ?_⟩
  rw [e1]
  refine k1 _ _ G1 H1 g1.ex ?_ (k d p1)
  -- the slot i holds p, which is none of the other lists
  have old : ∀ {l : Nat} {e : Sl}, ((Δ.set j (.dat d)).set i (Sl.own []))[l]? = some e → (l = i ∧ e = Sl.own [] ∧ i < Δ.length) ∨ (l ≠ i ∧ (Δ.set j (.dat d))[l]? = some e ∧ ((σ.set j (some v)).set i (some (V.ref p)))[l]? = (σ.set j (some v))[l]?) := fun {l e} he => by
    by_cases c : i = l
    · subst c
      have hl : i < Δ.length := by
        have := (List.getElem?_eq_some_iff.mp he).1
        simpa using this
      rw [List.getElem?_set_self (by simpa using hl)] at he
      cases he
      exact .inl ⟨rfl, rfl, hl⟩
    · rw [List.getElem?_set_ne c] at he
      exact .inr ⟨fun z => c z.symm, he, List.getElem?_set_ne c⟩
  have back : ∀ {l : Nat} {as : List D}, (Δ.set j (Sl.dat d))[l]? = some (Sl.own as) → Δ[l]? = some (Sl.own as) ∧ (σ.set j (some v))[l]? = σ[l]? := fun {l as} e => by
    by_cases c : j = l
    · subst c
      have hl : j < Δ.length := by
        have := (List.getElem?_eq_some_iff.mp e).1
        simpa using this
      rw [List.getElem?_set_self hl] at e
      cases e
    · rw [List.getElem?_set_ne c] at e
      exact ⟨e, List.getElem?_set_ne c⟩
  refine ⟨s2.gr, s2.hq, s2.rs.sub, by simpa using s.rs.len, s2.rs.gq, fun l e he => ?_, fun l bs he => ?_, fun l m bs cs p2 a1 a2 a3 a4 => ?_, fun l T he => ?_⟩
  · rcases old he with ⟨_, c, _⟩ | ⟨_, c, c2⟩
    · cases c
    · rw [c2]; exact s2.rs.dat l e c
  · rcases old he with ⟨c1, c, hl⟩ | ⟨_, c, c2⟩
    · cases c
      subst c1
      exact ⟨p, [], List.getElem?_set_self (by rw [List.length_set, s.rs.len]; exact hl), hp1, .nil, hG1, hH0, hqp⟩
    · rw [c2]; exact s2.rs.own l bs c
  · rcases old a1 with ⟨c1, _, hl⟩ | ⟨n1, c1, e1⟩
    · rcases old a2 with ⟨c2, _, _⟩ | ⟨n2, c2, e2⟩
      · rw [c1, c2]
      · subst c1
        rw [List.getElem?_set_self (by rw [List.length_set, s.rs.len]; exact hl)] at a3
        cases a3
        obtain ⟨b1, b2⟩ := back c2
        rw [e2, b2] at a4
        exact absurd a4 (other _ _ b1)
    · rcases old a2 with ⟨c2, _, hl⟩ | ⟨n2, c2, e2⟩
      · subst c2
        rw [List.getElem?_set_self (by rw [List.length_set, s.rs.len]; exact hl)] at a4
        cases a4
        obtain ⟨b1, b2⟩ := back c1
        rw [e1, b2] at a3
        exact absurd a3 (other _ _ b1)
      · rw [e1] at a3
        rw [e2] at a4
        exact s2.rs.dif l m bs cs p2 c1 c2 a3 a4
  · rcases old he with ⟨_, c, _⟩ | ⟨_, c, c2⟩
    · cases c
    · rw [c2]; exact s2.rs.dice l T c
/-- x op= e -/
theorem xs_aug {i : Nat} {ip : TIp} {x : D} (hi : Δ[i]? = some (Sl.dat x)) (h : Ev K (WE W) te Δ R X) (hx : ∀ C, X C → post (.ex C Δ)) (hr : ∀ y, R y → ∃ z, OpD K ip x y (· = z) ∧ post (.nx (Δ.set i (.dat z)))) : Xs K W (tAug i te ip) Δ post := fun q G0 H0 G H σ T s k1 k2 k3 k4 k5 => by
  obtain ⟨v, h1, h2⟩ := s.rs.dat i x hi
  refine ⟨v, h1, ?_⟩
  refine h q G0 H0 G H σ _ s (fun w y G1 H1 g1 r1 p1 => ?_) fun C G1 H1 g x => k5 C σ Δ G1 H1 g.ex (s.go g) (hx C x)
  obtain ⟨z, ho, hp⟩ := hr y p1
  refine ho G1 H1 v w _ g1.sub (h2.ex g1.ex) r1 fun u d G2 H2 g2 rd e => ?_
  subst e
  exact k1 _ _ G2 H2 (g1.ex.trans g2.ex) (((s.go g1).go g2.any).set rd) hp
theorem xs1_aug {i : Nat} {ip : TIp} {x y z : D} (hi : Δ[i]? = some (Sl.dat x)) (h : Ev K (WE W) te Δ (· = y) fun _ => False) (hr : OpD K ip x y (· = z)) (k : post (.nx (Δ.set i (.dat z)))) : Xs K W (tAug i te ip) Δ post :=
  xs_aug hi h (fun _ z => z.elim) fun e w => by rw [w]; exact ⟨z, hr, k⟩
/-- raise C(..) -/
theorem xs_raise {C : Addr} (k : post (.ex C Δ)) : Xs K W (fun _ σ H => W (.ref C) none σ H) Δ post := fun q G0 H0 G H σ T s k1 k2 k3 k4 k5 => k5 C σ Δ G H (Exx.refl _) s k
/-- while -/
theorem xs_while (I : Nat → En → Prop) (m0 : Nat) (h0 : I m0 Δ) (hs : ∀ m Δ', I m Δ' → ∃ (Rt : Bool → Prop) (X : Addr → Prop), Et K (WE W) tt Δ' Rt X ∧ (∀ C, X C → post (.ex C Δ')) ∧
      (Rt true → Xs K W t Δ' fun o => match o with
        | .nx Δ2 => ∃ m', m' < m ∧ I m' Δ2
        | .ct Δ2 => ∃ m', m' < m ∧ I m' Δ2
        | .bk Δ2 => post (.nx Δ2)
        | o => post o) ∧ (Rt false → post (.nx Δ'))) : Xs K W (tWhile tt t) Δ post := fun q G0 H0 G H σ T s k1 k2 k3 k4 k5 => by
  refine ⟨fun m σ' H' => ∃ Δ' G', Exx G G' ∧ Sta K q G0 H0 G' H' σ' Δ' ∧ I m Δ', ⟨m0, Δ, G, Exx.refl _, s, h0⟩, ?_⟩
  rintro m σ1 H1 ⟨Δ1, G1, e1, s1, i1⟩
  obtain ⟨Rt, X, ht, hx, hb, hn⟩ := hs m Δ1 i1
  refine ht q G0 H0 G1 H1 σ1 _ s1 (fun b G2 H2 g2 p2 => ?_) fun C G2 H2 g x => k5 C σ1 Δ1 G2 H2 (e1.trans g.ex) (s1.go g) (hx C x)
  have s2 := s1.go g2
  have e2 := e1.trans g2.ex
  cases b with
  | false => exact iteF (k1 σ1 Δ1 G2 H2 e2 s2 (hn p2))
  | true =>
    refine iteT ⟨fun σ' H' => ∃ m', m' < m ∧ ∃ Δ' G', Exx G G' ∧ Sta K q G0 H0 G' H' σ' Δ' ∧ I m' Δ', fun σ' H' h => h, ?_⟩
    refine hb p2 q G0 H0 G2 H2 σ1 _ s2 (fun σ3 Δ3 G3 H3 e3 s3 p3 => ?_) (fun v d G3 H3 g3 r3 p3 => k2 v d G3 H3 g3 r3 p3) (fun σ3 Δ3 G3 H3 e3 s3 p3 => k1 σ3 Δ3 G3 H3 (e2.trans e3) s3 p3) (fun σ3 Δ3 G3 H3 e3 s3 p3 => ?_) fun C σ3 Δ3 G3 H3 e3 s3 p3 => k5 C σ3 Δ3 G3 H3 (e2.trans e3) s3 p3
    · obtain ⟨m', l, i3⟩ := p3
      exact ⟨m', l, Δ3, G3, e2.trans e3, s3, i3⟩
    · obtain ⟨m', l, i3⟩ := p3
      exact ⟨m', l, Δ3, G3, e2.trans e3, s3, i3⟩

/-! ### walks: what a loop or a comprehension goes through, as data -/
def Wk (K : PySem.W.Frag) (J : It) (G : Hp) (items : List D) : Prop := ∀ (G1 H1 : Hp), Exx G G1 → Exx G1 H1 →
  (∀ i, i < items.length → J.go i H1 ∧ ∀ x H2, J.yld i H1 x H2 → ∃ G2 d, Gr none G1 H1 G2 H2 ∧ items[i]? = some d ∧ Rp K G2 x d) ∧ J.stop items.length H1
def Ew (K : PySem.W.Frag) (E : L2.St → XK) (wi : TI) (Δ : En) (R : List D → Prop) (X : Addr → Prop) : Prop :=
  ∀ (q : Qd) (G0 H0 G H : Hp) (σ : L2.St) (Rj : It → Hp → Prop), Sta K q G0 H0 G H σ Δ →
    (∀ (J : It) (items : List D) (G' H' : Hp), Gr q G H G' H' → Wk K J G' items → R items → Rj J H') →
    (∀ (C : Addr) (G' H' : Hp), Gr q G H G' H' → X C → E σ (.ref C) none H') → wi σ H Rj
theorem xs_for {wi : TI} {g : TG} {Rw : List D → Prop} (hw : Ew K (WE W) wi Δ Rw X) (hx : ∀ C, X C → post (.ex C Δ)) (I : List D → Nat → En → Prop) (h0 : ∀ items, Rw items → I items 0 Δ)
    (hs : ∀ items i d Δ', Rw items → items[i]? = some d → I items i Δ' → ∃ js Δ2, Tg K g js Δ' d Δ2 ∧ Xs K W t Δ2 fun o => match o with
      | .nx Δ3 => I items (i + 1) Δ3
      | .ct Δ3 => I items (i + 1) Δ3
      | .bk Δ3 => post (.nx Δ3)
      | o => post o) (hd : ∀ items Δ', Rw items → I items items.length Δ' → post (.nx Δ')) : Xs K W (tFor wi g t) Δ post := fun q G0 H0 G H σ T s k1 k2 k3 k4 k5 => by
  refine hw q G0 H0 G H σ _ s (fun J items Gw Hw gw wk rw_ => ?_) fun C G1 H1 g x => k5 C σ Δ G1 H1 g.ex (s.go g) (hx C x)
  refine ⟨fun i m σ' H' => m = items.length - i ∧ i ≤ items.length ∧ ∃ Δ' G', Exx Gw G' ∧ Sta K q G0 H0 G' H' σ' Δ' ∧ I items i Δ', ⟨items.length, rfl, Nat.zero_le _, Δ, Gw, Exx.refl _, s.go gw, h0 items rw_⟩, ?_⟩
  rintro i m σ1 H1 ⟨rfl, hi, Δ1, G1, e1, s1, i1⟩
  obtain ⟨wg, ws⟩ := wk G1 H1 e1 s1.sub
  by_cases hlt : i < items.length
  · obtain ⟨go, yl⟩ := wg i hlt
    refine .inr ⟨go, fun σ' H' => ∃ Δ' G', Exx Gw G' ∧ Sta K q G0 H0 G' H' σ' Δ' ∧ I items (i + 1) Δ', fun σ' H' ⟨Δ', G', a, b, c⟩ => ⟨items.length - (i + 1), by omega, rfl, hlt, Δ', G', a, b, c⟩, fun x H2 y => ?_⟩
    obtain ⟨G2, d, g2, hd', rx⟩ := yl x H2 y
    have s2 := s1.go g2.any
    obtain ⟨js, Δ2, ht, hb⟩ := hs items i d Δ1 rw_ hd' i1
    refine ht q G0 H0 G2 H2 σ1 x _ s2 rx fun σ3 s3 _ => ?_
    have e2 := e1.trans g2.ex
    exact hb q G0 H0 G2 H2 σ3 _ s3 (fun σ4 Δ4 G4 H4 e4 s4 p4 => ⟨Δ4, G4, e2.trans e4, s4, p4⟩) k2 (fun σ4 Δ4 G4 H4 e4 s4 p4 => k1 σ4 Δ4 G4 H4 (gw.ex.trans (e2.trans e4)) s4 p4) (fun σ4 Δ4 G4 H4 e4 s4 p4 => ⟨Δ4, G4, e2.trans e4, s4, p4⟩)
      fun C σ4 Δ4 G4 H4 e4 s4 p4 => k5 C σ4 Δ4 G4 H4 (gw.ex.trans (e2.trans e4)) s4 p4
  · have e : i = items.length := by omega
    subst e
    exact .inl ⟨ws, k1 σ1 Δ1 G1 H1 (gw.ex.trans e1) s1 (hd items Δ1 rw_ i1)⟩
/-- items that are known -/
theorem xs1_for {wi : TI} {g : TG} {items : List D} (hw : Ew K (WE W) wi Δ (· = items) fun _ => False) (I : Nat → En → Prop) (h0 : I 0 Δ)
    (hs : ∀ i d Δ', items[i]? = some d → I i Δ' → ∃ js Δ2, Tg K g js Δ' d Δ2 ∧ Xs K W t Δ2 fun o => match o with
      | .nx Δ3 => I (i + 1) Δ3
      | .ct Δ3 => I (i + 1) Δ3
      | .bk Δ3 => post (.nx Δ3)
      | o => post o) (hd : ∀ Δ', I items.length Δ' → post (.nx Δ')) : Xs K W (tFor wi g t) Δ post :=
  xs_for hw (fun _ z => z.elim) (fun _ i Δ' => I i Δ') (fun _ _ => h0) (fun it i d Δ' e hi' i1 => hs i d Δ' (by rw [← e]; exact hi') i1) fun it Δ' e i1 => hd Δ' (by rw [← e]; exact i1)
end
end Ts


namespace Ts
open PySem PySem.Spec PyProof.Rows L2

section
variable {K : PySem.W.Frag} {E : L2.St → XK} {W : WX} {Δ : En} {te ta tb : TE} {tt : TT} {R : D → Prop} {X : Addr → Prop} {wi wj : TI} {Rw : List D → Prop}
theorem ew_inl (h : Ew K E wi Δ Rw X) : Ew K E (fun σ H Rj => wi σ H Rj ∨ wj σ H Rj) Δ Rw X := fun q G0 H0 G H σ Rj s k kx => .inl (h q G0 H0 G H σ Rj s k kx)
theorem ew_inr (h : Ew K E wj Δ Rw X) : Ew K E (fun σ H Rj => wi σ H Rj ∨ wj σ H Rj) Δ Rw X := fun q G0 H0 G H σ Rj s k kx => .inr (h q G0 H0 G H σ Rj s k kx)
theorem ew_list (h : Ev K E te Δ (fun d => ∃ ds, d = .lst ds ∧ Rw ds) X) : Ew K E (iList K te) Δ Rw X := fun q G0 H0 G H σ Rj s k kx =>
  h q G0 H0 G H σ _ s (fun v d G1 H1 g1 r1 p1 => by
    obtain ⟨ds, rfl, hp⟩ := p1
    obtain ⟨a, xs, rfl, ha, hr⟩ := r1.lst_inv
    refine ⟨a, rfl, ⟨xs, .inl (.inl (g1.sub.l ha))⟩, k (Itl K a) ds G1 H1 g1 (fun G2 H2 e2 e3 => ?_) hp⟩
    have hq : SqL K H2 a xs := .inl (.inl (e3.l (e2.l ha)))
    have hl := hr.length
    refine ⟨fun i hi => ⟨⟨xs, xs[i]'(by omega), hq, by simp [show i < xs.length by omega]⟩, fun x H3 y => ?_⟩, ⟨xs, hq, by omega⟩⟩
    obtain ⟨e, y⟩ := y
    subst e
    obtain ⟨d, hd, rd⟩ := hr.getV (y xs hq)
    exact ⟨G2, d, Gr.refl e3, hd, rd.ex e2⟩) kx
theorem ew_tup (h : Ev K E te Δ (fun d => ∃ ds, d = .tup ds ∧ Rw ds) X) : Ew K E (iTup K te) Δ Rw X := fun q G0 H0 G H σ Rj s k kx =>
  h q G0 H0 G H σ _ s (fun v d G1 H1 g1 r1 p1 => by
    obtain ⟨ds, rfl, hp⟩ := p1
    obtain ⟨a, xs, rfl, ha, hr⟩ := r1.tup_inv
    refine ⟨a, rfl, ⟨xs, st_ex g1.sub ha⟩, k (Itt K a) ds G1 H1 g1 (fun G2 H2 e2 e3 => ?_) hp⟩
    have hq : SqT K H2 a xs := st_ex e3 (st_ex e2 ha)
    have hl := hr.length
    refine ⟨fun i hi => ⟨⟨xs, xs[i]'(by omega), hq, by simp [show i < xs.length by omega]⟩, fun x H3 y => ?_⟩, ⟨xs, hq, by omega⟩⟩
    obtain ⟨e, y⟩ := y
    subst e
    obtain ⟨d, hd, rd⟩ := hr.getV (y xs hq)
    exact ⟨G2, d, Gr.refl e3, hd, rd.ex e2⟩) kx
/-- a text's signs -/
def signs (z : Str) : List D := z.cps.toList.map fun c => .str ⟨#[c]⟩
theorem ew_str (h : Ev K E te Δ (fun d => ∃ z, d = .str z ∧ Rw (signs z)) X) : Ew K E (iStr te) Δ Rw X := fun q G0 H0 G H σ Rj s k kx =>
  h q G0 H0 G H σ _ s (fun v d G1 H1 g1 r1 p1 => by
    obtain ⟨z, rfl, hp⟩ := p1
    cases r1
    refine ⟨z, rfl, k (Its z) (signs z) G1 H1 g1 (fun G2 H2 e2 e3 => ?_) hp⟩
    have hl : (signs z).length = z.cps.size := by simp [signs]
    refine ⟨fun i hi => ⟨by rw [hl] at hi; exact hi, fun x H3 y => ?_⟩, by rw [hl]; exact Nat.le_refl _⟩
    obtain ⟨e, c, hc, ex⟩ := y
    subst e
    subst ex
    exact ⟨G2, .str ⟨#[c]⟩, Gr.refl e3, by simp [signs, hc], .str _⟩) kx
/-- lo, lo + c, .. -/
def rngD (lo c : Int) (n : Nat) : List D := (List.range n).map fun i => .int (lo + (i : Nat) * c)
theorem rngD_get {lo c : Int} {n i : Nat} (h : i < n) : (rngD lo c n)[i]? = some (.int (lo + (i : Nat) * c)) := by simp [rngD, h]
theorem rngD_len {lo c : Int} {n : Nat} : (rngD lo c n).length = n := by simp [rngD]
theorem rngD_of {lo c : Int} {n i : Nat} {d : D} (h : (rngD lo c n)[i]? = some d) : i < n ∧ d = .int (lo + (i : Nat) * c) := by
  have h1 : i < n := by
    have := (List.getElem?_eq_some_iff.mp h).1
    rwa [rngD_len] at this
  rw [rngD_get h1] at h
  exact ⟨h1, (Option.some.inj h).symm⟩
theorem wk_range {lo : Int} {n : Nat} {G : Hp} : Wk K (Itr lo n) G (rngD lo 1 n) := fun G2 H2 e2 e3 => by
  refine ⟨fun i hi => ⟨by rw [rngD_len] at hi; exact hi, fun x H3 y => ?_⟩, by rw [rngD_len]; exact Nat.le_refl _⟩
  obtain ⟨e, ex⟩ := y
  subst e
  subst ex
  rw [rngD_len] at hi
  exact ⟨G2, _, Gr.refl e3, rngD_get hi, by rw [Int.mul_one]; exact .int _⟩
theorem wk_rangeC {lo c : Int} {n : Nat} {G : Hp} : Wk K (Itc lo c n) G (rngD lo c n) := fun G2 H2 e2 e3 => by
  refine ⟨fun i hi => ⟨by rw [rngD_len] at hi; exact hi, fun x H3 y => ?_⟩, by rw [rngD_len]; exact Nat.le_refl _⟩
  obtain ⟨e, ex⟩ := y
  subst e
  subst ex
  rw [rngD_len] at hi
  exact ⟨G2, _, Gr.refl e3, rngD_get hi, .int _⟩
theorem ew_rng1 (h : Ev K E te Δ (fun d => ∃ j : Int, d = .int j ∧ -(2 ^ 62) ≤ j ∧ j < 2 ^ 62 ∧ Rw (rngD 0 1 j.toNat)) X) : Ew K E (iRng1 (tCons te tNil)) Δ Rw X := fun q G0 H0 G H σ Rj s k kx =>
  h q G0 H0 G H σ _ s (fun v d G1 H1 g1 r1 p1 => by
    obtain ⟨j, rfl, h1, h2, hp⟩ := p1
    cases r1
    exact ⟨j, rfl, h1, h2, k _ _ G1 H1 g1 wk_range hp⟩) kx
theorem ew_rng2 (h : Ev K E ta Δ R X) (h' : ∀ a, R a → Ev K E tb Δ (fun d => ∃ i j : Int, a = .int i ∧ d = .int j ∧ (-(2 ^ 62) ≤ i ∧ i < 2 ^ 62 ∧ -(2 ^ 62) ≤ j ∧ j < 2 ^ 62) ∧ Rw (rngD i 1 (j - i).toNat)) X) : Ew K E (iRng2 (tCons ta (tCons tb tNil))) Δ Rw X := fun q G0 H0 G H σ Rj s k kx =>
  h q G0 H0 G H σ _ s (fun v a G1 H1 g1 r1 p1 => h' a p1 q G0 H0 G1 H1 σ _ (s.go g1) (fun u d G2 H2 g2 r2 p2 => by
    obtain ⟨i, j, rfl, rfl, hb, hp⟩ := p2
    cases r1
    cases r2
    exact ⟨i, j, rfl, hb, k _ _ G2 H2 (s.tr g1 g2) wk_range hp⟩) fun C G' H' g x => kx C G' H' (s.tr g1 g) x) kx
theorem ew_rng3 {a b c : Int} {n : Nat} (h1 : Ev K E ta Δ (· = .int a) X) (h2 : Ev K E tb Δ (· = .int b) X) (h3 : Ev K E te Δ (· = .int c) X) (hr : RgC a b c n) : Ew K E (iRng3 (tCons ta (tCons tb (tCons te tNil)))) Δ (· = rngD a c n) X := fun q G0 H0 G H σ Rj s k kx =>
  h1 q G0 H0 G H σ _ s (fun v d1 G1 H1 g1 r1 p1 => h2 q G0 H0 G1 H1 σ _ (s.go g1) (fun u d2 G2 H2 g2 r2 p2 => h3 q G0 H0 G2 H2 σ _ (s.go (s.tr g1 g2)) (fun x d3 G3 H3 g3 r3 p3 => by
    subst p1; subst p2; subst p3
    cases r1; cases r2; cases r3
    exact ⟨a, b, c, n, rfl, hr, k _ _ G3 H3 (s.tr (s.tr g1 g2) g3) wk_rangeC rfl⟩) fun C G' H' g x => kx C G' H' (s.tr (s.tr g1 g2) g) x) fun C G' H' g x => kx C G' H' (s.tr g1 g) x) kx
/-- (0, a), (1, b), .. -/
def enumD (ds : List D) : List D := ds.mapIdx fun i d => .tup [.int (i : Nat), d]
theorem enumD_get {ds : List D} {i : Nat} {d : D} (h : ds[i]? = some d) : (enumD ds)[i]? = some (.tup [.int (i : Nat), d]) := by simp [enumD, h]
theorem enumD_len {ds : List D} : (enumD ds).length = ds.length := by simp [enumD]
theorem enumD_of {ds : List D} {i : Nat} {e : D} (h : (enumD ds)[i]? = some e) : ∃ d, ds[i]? = some d ∧ e = .tup [.int (i : Nat), d] := by
  have h1 : i < ds.length := by
    have := (List.getElem?_eq_some_iff.mp h).1
    rwa [enumD_len] at this
  refine ⟨ds[i], List.getElem?_eq_getElem h1, ?_⟩
  rw [enumD_get (List.getElem?_eq_getElem h1)] at h
  exact (Option.some.inj h).symm
theorem ew_enum (h : Ev K E te Δ (fun d => ∃ ds, d = .lst ds ∧ Rw (enumD ds)) X) : Ew K E (iEnum K (tCons te tNil)) Δ Rw X := fun q G0 H0 G H σ Rj s k kx =>
  h q G0 H0 G H σ _ s (fun v d G1 H1 g1 r1 p1 => by
    obtain ⟨ds, rfl, hp⟩ := p1
    obtain ⟨a, xs, rfl, ha, hr⟩ := r1.lst_inv
    refine ⟨a, xs, rfl, .inl (.inl (g1.sub.l ha)), k (Ite K a) (enumD ds) G1 H1 g1 (fun G2 H2 e2 e3 => ?_) hp⟩
    have hq : SqL K H2 a xs := .inl (.inl (e3.l (e2.l ha)))
    have hl := hr.length
    rw [enumD_len]
    refine ⟨fun i hi => ⟨⟨xs, xs[i]'(by omega), hq, by simp [show i < xs.length by omega]⟩, fun x H3 y => ?_⟩, ⟨xs, hq, by omega⟩⟩
    obtain ⟨T, z, rfl, hT, rfl, y⟩ := y
    obtain ⟨d, hd, rd⟩ := hr.getV (y xs hq)
    have g := Gr.new (o := .tup [.int (i : Nat), z]) e3 hT
    exact ⟨_, _, g, enumD_get hd, .tup (.inl (.inl upd_same)) (.cons (.int _) (.cons (rd.ex (e2.trans g.ex)) .nil))⟩) kx
/-- pairs -/
def zipD (as bs : List D) : List D := List.zipWith (fun a b => .tup [a, b]) as bs
theorem zipD_get {as bs : List D} {i : Nat} {a b : D} (h1 : as[i]? = some a) (h2 : bs[i]? = some b) : (zipD as bs)[i]? = some (.tup [a, b]) := by simp [zipD, List.getElem?_zipWith, h1, h2]
theorem zipD_len {as bs : List D} : (zipD as bs).length = min as.length bs.length := by simp [zipD]
theorem zipD_of {as bs : List D} {i : Nat} {e : D} (h : (zipD as bs)[i]? = some e) : ∃ a b, as[i]? = some a ∧ bs[i]? = some b ∧ e = .tup [a, b] := by
  have h1 : i < min as.length bs.length := by
    have := (List.getElem?_eq_some_iff.mp h).1
    rwa [zipD_len] at this
  have ha : as[i]? = some as[i] := List.getElem?_eq_getElem (by omega)
  have hb : bs[i]? = some bs[i] := List.getElem?_eq_getElem (by omega)
  refine ⟨_, _, ha, hb, ?_⟩
  rw [zipD_get ha hb] at h
  exact (Option.some.inj h).symm
theorem ew_zip (h : Ev K E ta Δ R X) (h' : ∀ d, R d → Ev K E tb Δ (fun e => ∃ as bs, d = .lst as ∧ e = .lst bs ∧ Rw (zipD as bs)) X) : Ew K E (iZip K (tCons ta (tCons tb tNil))) Δ Rw X := fun q G0 H0 G H σ Rj s k kx =>
  h q G0 H0 G H σ _ s (fun v d G1 H1 g1 r1 p1 => h' d p1 q G0 H0 G1 H1 σ _ (s.go g1) (fun u e G2 H2 g2 r2 p2 => by
    obtain ⟨as, bs, rfl, rfl, hp⟩ := p2
    obtain ⟨a, xs, rfl, ha, hr⟩ := (r1.ex g2.ex).lst_inv
    obtain ⟨b, ys, rfl, hb, hr2⟩ := r2.lst_inv
    refine ⟨a, b, xs, ys, rfl, .inl (.inl (g2.sub.l ha)), .inl (.inl (g2.sub.l hb)), k (Itz K a b) (zipD as bs) G2 H2 (s.tr g1 g2) (fun G3 H3 e2 e3 => ?_) hp⟩
    have hq : SqL K H3 a xs := .inl (.inl (e3.l (e2.l ha)))
    have hq2 : SqL K H3 b ys := .inl (.inl (e3.l (e2.l hb)))
    have hl := hr.length
    have hl2 := hr2.length
    rw [zipD_len]
    refine ⟨fun i hi => ⟨⟨xs, ys, xs[i]'(by omega), ys[i]'(by omega), hq, hq2, by simp [show i < xs.length by omega], by simp [show i < ys.length by omega]⟩, fun x H4 y => ?_⟩, ⟨xs, ys, hq, hq2, by omega⟩⟩
    obtain ⟨T, z, z2, rfl, hT, rfl, y1, y2⟩ := y
    obtain ⟨d, hd, rd⟩ := hr.getV (y1 xs hq)
    obtain ⟨d2, hd2, rd2⟩ := hr2.getV (y2 ys hq2)
    have g := Gr.new (o := .tup [z, z2]) e3 hT
    exact ⟨_, _, g, zipD_get hd hd2, .tup (.inl (.inl upd_same)) (.cons (rd.ex (e2.trans g.ex)) (.cons (rd2.ex (e2.trans g.ex)) .nil))⟩) fun C G' H' g x => kx C G' H' (s.tr g1 g) x) kx

/-! ### comprehensions -/
def wipeE (Δ : En) : List Nat → En
  | [] => Δ
  | v :: vs => (wipeE Δ vs).set v .no
theorem sta_wipe {q : Qd} {G0 H0 G H : Hp} {σ : L2.St} (s : Sta K q G0 H0 G H σ Δ) : ∀ vs : List Nat, Sta K q G0 H0 G H (wipe σ vs) (wipeE Δ vs)
  | [] => s
  | v :: vs => (sta_wipe s vs).setAny
theorem wipe_wipe {σ : L2.St} : ∀ {vs us : List Nat}, (∀ v ∈ us, v ∈ vs) → wipe (wipe σ us) vs = wipe σ vs
  | _, [], _ => rfl
  | vs, u :: us, h => by
    show wipe ((wipe σ us).set u none) vs = wipe σ vs
    rw [wipe_set_in (h u List.mem_cons_self)]
    exact wipe_wipe fun v hv => h v (List.mem_cons_of_mem _ hv)
abbrev E00 : L2.St → XK := fun _ _ _ _ => False
theorem ev_lc {g : TG} {vs : List Nat} {E : L2.St → XK} (hw : Ew K E wi Δ Rw X) (I : List D → Nat → List D → Prop) (h0 : ∀ items, Rw items → I items 0 [])
    (hs : ∀ items i d acc, Rw items → items[i]? = some d → I items i acc → ∃ js Δ2, (∀ j ∈ js, j ∈ vs) ∧ Tg K g js (wipeE Δ vs) d Δ2 ∧
      Et K E00 tt Δ2 (fun b => (b = true → Ev K E00 te Δ2 (fun e => acc.length < sizeLine ∧ I items (i + 1) (acc ++ [e])) fun _ => False) ∧ (b = false → I items (i + 1) acc)) fun _ => False)
    (hd : ∀ items acc, Rw items → I items items.length acc → R (.lst acc)) : Ev K E (tLc wi g tt te vs) Δ R X := fun q G0 H0 G H σ Q s k kx => by
  refine hw q G0 H0 G H σ _ s (fun J items Gw Hw gw wk rw_ => ?_) kx
  intro Dl hDl
  have hHD : Nt H Dl := gw.live s.dq (.of hDl)
  have hqD : ∀ T, q ≠ some (Dl, T) := fun T c => by
    obtain ⟨x, y, z, e⟩ := ((s.go gw).dq Dl T c).1
    rw [hDl] at e; cases e
  have hGw : Nt Gw Dl := fun o c => Classical.byContradiction fun n => by
    rw [gw.sub Dl o c (fun ps z => n ⟨ps, z⟩)] at hDl; cases hDl
  have nop : ∀ {F : Hp} {a : Addr} {o : HO}, Nt F Dl → F a = some o → (∀ ps, o ≠ HO.tbl ps) → a ≠ Dl := fun n e nt z => by
    rw [z] at e
    obtain ⟨ps, h⟩ := n _ e
    exact nt ps h
  -- writing the list that grows
  have put : ∀ {G1 H1 : Hp} {ws : List V}, Gr q G H G1 H1 → Nt G1 Dl → (H1 Dl = none ∨ ∃ us, H1 Dl = some (.lst us)) → Gr q G H G1 (upd H1 Dl (.lst ws)) := fun {G1 H1 ws} g1 n1 h1 => by
    have tb : Tbd H1 (upd H1 Dl (.lst ws)) := by
      rcases h1 with h1 | ⟨us, h1⟩
      · exact .new h1
      · exact .chg h1
    refine ⟨g1.ex, g1.nw, fun a o e nt => ?_, fun a o c e nt => ?_, fun c T t => tb T (g1.tk c T t), fun a T c d => ?_⟩
    · rw [upd_ne (nop n1 e nt)]; exact g1.sub a o e nt
    · rw [upd_ne (nop hHD e nt)]; exact g1.keep a o c e nt
    · have : a ≠ Dl := fun z => by rw [z] at c; exact hqD T c
      obtain ⟨⟨x, y, z, e⟩, t⟩ := g1.dq a T c d
      exact ⟨⟨x, y, z, by rw [upd_ne this]; exact e⟩, tb T t⟩
  refine ⟨fun i m H' => m = items.length - i ∧ i ≤ items.length ∧ ∃ G' ws acc, Gr q G H G' H' ∧ Exx Gw G' ∧ Nt G' Dl ∧ H' Dl = some (.lst ws) ∧ RpL K G' ws acc ∧ I items i acc,
    ⟨items.length, rfl, Nat.zero_le _, Gw, [], [], put gw hGw (.inl hDl), Exx.refl _, hGw, upd_same, .nil, h0 items rw_⟩, ?_⟩
  rintro i m H1 ⟨rfl, hi, G1, ws, acc, g1, e1, n1, hD1, r1, i1⟩
  obtain ⟨wg, wst⟩ := wk G1 H1 e1 g1.sub
  by_cases hlt : i < items.length
  · obtain ⟨go, yl⟩ := wg i hlt
    refine .inr ⟨go, fun H' => ∃ G' ws acc, Gr q G H G' H' ∧ Exx Gw G' ∧ Nt G' Dl ∧ H' Dl = some (.lst ws) ∧ RpL K G' ws acc ∧ I items (i + 1) acc, fun H' h => ⟨items.length - (i + 1), by omega, rfl, hlt, h⟩, fun x H2 y => ?_⟩
    obtain ⟨G2, d, g2, hd', rx⟩ := yl x H2 y
    have s1 := s.go g1
    have s2 := sta_wipe (s1.go g2.any) vs
    obtain ⟨js, Δ2, hjs, ht, hb⟩ := hs items i d acc rw_ hd' i1
    refine ht q G0 H0 G2 H2 (wipe σ vs) x _ s2 rx fun σ3 s3 w3 => ⟨(w3 vs hjs).trans (wipe_wipe fun v hv => hv), ?_⟩
    have keepD : ∀ {G5 H5 : Hp}, Gr q G1 H1 G5 H5 → Nt G5 Dl ∧ H5 Dl = some (.lst ws) := fun {G5 H5} g5 => ⟨g5.un n1 hD1, g5.kl hqD hD1⟩
    refine hb q G0 H0 G2 H2 σ3 _ s3 (fun b G3 H3 g3 p3 => ?_) fun _ _ _ _ z => z.elim
    have g13 : Gr q G1 H1 G3 H3 := s1.tr g2.any g3
    cases b with
    | false =>
      obtain ⟨a1, a2⟩ := keepD g13
      exact iteF ⟨G3, ws, acc, s.tr g1 g13, e1.trans g13.ex, a1, a2, r1.ex g13.ex, p3.2 rfl⟩
    | true =>
      refine iteT ((p3.1 rfl) q G0 H0 G3 H3 σ3 _ (s3.go g3) (fun u e G4 H4 g4 r4 p4 => ?_) fun _ _ _ _ z => z.elim)
      have g14 : Gr q G1 H1 G4 H4 := s1.tr g13 g4
      obtain ⟨a1, a2⟩ := keepD g14
      refine ⟨ws, a2, by rw [r1.length]; exact p4.1, G4, ws ++ [u], acc ++ [e], put (s.tr g1 g14) a1 (.inr ⟨_, a2⟩), e1.trans g14.ex, a1, upd_same, (r1.ex g14.ex).append (.cons r4 .nil), p4.2⟩
  · have e : i = items.length := by omega
    subst e
    refine .inl ⟨wst, ?_⟩
    have ex' : Exx G1 (upd G1 Dl (.lst ws)) := fun a o e nt => by rw [upd_ne (nop n1 e nt)]; exact e
    refine k (.ref Dl) (.lst acc) (upd G1 Dl (.lst ws)) H1 ⟨g1.ex.trans ex', fun a o e => ?_, fun a o e nt => ?_, g1.keep, g1.tk, g1.dq⟩ (.lst upd_same (r1.ex ex')) (hd items acc rw_ i1)
    · by_cases c : a = Dl
      · rw [c]; exact .inr hHD
      · rw [upd_ne c] at e; exact g1.nw a o e
    · by_cases c : a = Dl
      · rw [c, upd_same] at e; rw [c, ← e]; exact hD1
      · rw [upd_ne c] at e; exact g1.sub a o e nt
theorem et_yes {E : L2.St → XK} : Et K E tYes Δ (· = true) X := fun q G0 H0 G H σ Q s k _ => k true G H s.rf rfl
/-- [f(x) for x in items], no test, each with its value -/
theorem ev1_lc {g : TG} {vs : List Nat} {E : L2.St → XK} {items : List D} (f : Nat → D → D) (hw : Ew K E wi Δ (· = items) X) (hl : items.length ≤ 1000000)
    (hs : ∀ i d, items[i]? = some d → ∃ js Δ2, (∀ j ∈ js, j ∈ vs) ∧ Tg K g js (wipeE Δ vs) d Δ2 ∧ Ev K E00 te Δ2 (· = f i d) fun _ => False) : Ev K E (tLc wi g tYes te vs) Δ (· = .lst (items.mapIdx f)) X := by
  refine ev_lc hw (fun its i acc => acc = (its.take i).mapIdx f) (fun its _ => rfl) (fun its i d acc e hi ea => ?_) fun its acc e ea => ?_
  · subst e
    obtain ⟨js, Δ2, h1, h2, h3⟩ := hs i d hi
    have hlt := (List.getElem?_eq_some_iff.mp hi).1
    refine ⟨js, Δ2, h1, h2, et_yes.imp fun b eb => ⟨fun _ => h3.imp fun z ez => ⟨?_, ?_⟩, fun c => by rw [eb] at c; cases c⟩⟩
    · rw [ea, List.length_mapIdx, List.length_take]
      exact szlt (by omega)
    · have et : its.take (i + 1) = its.take i ++ [d] := by
        rw [List.take_add_one, hi]; rfl
      rw [et, List.mapIdx_append, ea, ez]
      have lt : (its.take i).length = i := by rw [List.length_take]; omega
      simp [lt]
  · subst e
    rw [ea, List.take_length]

/-! ### a def keeps its promise -/
def fnP (post : List D → Res → Prop) (ds : List D) : Out → Prop
  | .nx _ => post ds (.ret .non)
  | .rt d => post ds (.ret d)
  | .ex C _ => post ds (.exc C)
  | _ => False
/-- the slots at the entry -/
def argsE (N : List Str) (ds : List D) : En := ds.map Sl.dat ++ List.replicate (N.length - ds.length) Sl.no
theorem start_get {N : List Str} {vs : List V} {i : Nat} {v : V} (h : vs[i]? = some v) : (L2.start N vs)[i]? = some (some v) := by
  unfold L2.start
  have hl : i < vs.length := (List.getElem?_eq_some_iff.mp h).1
  rw [List.getElem?_append_left (by simpa using hl), List.getElem?_map, h]
  rfl
theorem argsE_get {N : List Str} {ds : List D} {i : Nat} {e : Sl} (h : (argsE N ds)[i]? = some e) : (∃ d, ds[i]? = some d ∧ e = .dat d) ∨ e = .no := by
  unfold argsE at h
  by_cases hi : i < ds.length
  · rw [List.getElem?_append_left (by simpa using hi), List.getElem?_map, List.getElem?_eq_getElem hi] at h
    exact .inl ⟨_, List.getElem?_eq_getElem hi, (Option.some.inj h).symm⟩
  · rw [List.getElem?_append_right (by simpa using hi), List.getElem?_replicate] at h
    split at h
    · exact .inr (Option.some.inj h).symm
    · cases h
theorem sta_args {G H : Hp} {N : List Str} {vs : List V} {ds : List D} (he : Exx G H) (r : RpL K G vs ds) (hl : ds.length ≤ N.length) : Sta K none G H G H (L2.start N vs) (argsE N ds) := by
  refine Sta.start ⟨he, ?_, fun a T e => (nomatch e), fun i d h => ?_, fun i bs h => ?_, fun i j bs cs p h => ?_, fun i T h => ?_⟩
  · unfold L2.start argsE
    simp [r.length]
  · rcases argsE_get h with ⟨e, h1, h2⟩ | h1
    · cases h2
      obtain ⟨v, hv, rv⟩ := r.get h1
      exact ⟨v, start_get hv, rv⟩
    · cases h1
  · rcases argsE_get h with ⟨e, _, h2⟩ | h1
    · cases h2
    · cases h1
  · rcases argsE_get h with ⟨e, _, h2⟩ | h1
    · cases h2
    · cases h1
  · rcases argsE_get h with ⟨e, _, h2⟩ | h1
    · cases h2
    · cases h1
section
variable {P : Program} {w : World} {mg : Str → Option Value} {base : Heap} {x qual : Str} {params : Arguments} {body : List Stmt} {scope : Scope} {dvs : List V} {kws : List (Str × V)} {f : Addr} {fd : FuncData} {N ps : List Str} {k : Nat} {pre : List D → Prop} {post : List D → Res → Prop}
abbrev wDef (E : XK) : WX := fun cls d _ H => E cls d H
theorem fn_D {t : WX → TS} (F : FunD K x qual params body scope dvs kws f fd) (S : FnScope N ps scope) (hp : ∀ ds, pre ds → ds.length = ps.length)
    (der : ∀ (cdv : Value) (A : Around) (outer : List Env) (s : Shared) (H : Hp) (E : XK), Room k (A.deeper (envOfC qual scope s.heap.objs.size f cdv)) → PSs (cxOf (L2.CX P w) P w K mg base N qual scope f cdv A outer s H E) body (t (wDef E)))
    (h : ∀ (W : WX) ds, pre ds → Xs K W (t W) (argsE N ds) (fnP post ds)) : FnOk P w K mg base (L2.CX P w) (k + 1) f fd ps (spD K pre post) := by
  have hNl : ps.length ≤ N.length := by have := congrArg List.length S.pre; rw [List.length_take] at this; omega
  refine F.ok S (fun vs H Q E hsp => ?_) fun cdv A outer s H vs Q E hr hsp => ⟨t (wDef E), der cdv A outer s H E hr, ?_⟩
  · obtain ⟨G, ds, _, r, p, _⟩ := hsp
    rw [r.length]; exact hp ds p
  · obtain ⟨G, ds, e, r, p, k1, k2⟩ := hsp
    have hl : ds.length ≤ N.length := by rw [hp ds p]; exact hNl
    exact h (wDef E) ds p none G H G H (L2.start N vs) _ (sta_args e r hl) (fun σ' Δ' G' H' e' s' q => k1 .non .non G' H' s'.gr .non q) (fun v d G' H' g rv q => k1 v d G' H' g rv q) (fun _ _ _ _ _ _ z => False.elim z) (fun _ _ _ _ _ _ z => False.elim z) fun C σ' Δ' G' H' e' s' q => k2 C G' H' s'.gr q
/-- the slots at the entry of a def that gets the dice first -/
def argsQ (T : Tb) (N : List Str) (ds : List D) : En := Sl.dice T :: (ds.map Sl.dat ++ List.replicate (N.length - ds.length - 1) Sl.no)
theorem sta_argsQ {T : Tb} {G H : Hp} {N : List Str} {a : Addr} {vs : List V} {ds : List D} (he : Exx G H) (n : Nt G a) (dq : DiceAt H a ∧ LamX.Tabs T H) (r : RpL K G vs ds) (hl : ds.length + 1 ≤ N.length) : Sta K (some (a, T)) G H G H (L2.start N (.ref a :: vs)) (argsQ T N ds) := by
  have g0 : ∀ {i : Nat} {e : Sl}, (argsQ T N ds)[i]? = some e → (i = 0 ∧ e = .dice T) ∨ (∃ j d, i = j + 1 ∧ ds[j]? = some d ∧ e = .dat d) ∨ e = .no := fun {i e} h => by
    cases i with
    | zero => exact .inl ⟨rfl, (Option.some.inj h).symm⟩
    | succ j =>
      have h' : (ds.map Sl.dat ++ List.replicate (N.length - ds.length - 1) Sl.no)[j]? = some e := by simpa [argsQ] using h
      by_cases hi : j < ds.length
      · rw [List.getElem?_append_left (by simpa using hi), List.getElem?_map, List.getElem?_eq_getElem hi] at h'
        exact .inr (.inl ⟨j, _, rfl, List.getElem?_eq_getElem hi, (Option.some.inj h').symm⟩)
      · rw [List.getElem?_append_right (by simpa using hi), List.getElem?_replicate] at h'
        split at h'
        · exact .inr (.inr (Option.some.inj h').symm)
        · cases h'
  refine Sta.start ⟨he, ?_, fun b T' e => ?_, fun i d h => ?_, fun i bs h => ?_, fun i j bs cs p h => ?_, fun i T' h => ?_⟩
  · unfold L2.start argsQ
    have := r.length
    simp only [List.length_append, List.length_map, List.length_replicate, List.length_cons]
    omega
  · cases e
    exact ⟨n, dq⟩
  · rcases g0 h with ⟨_, h2⟩ | ⟨j, e, rfl, h1, h2⟩ | h1
    · cases h2
    · cases h2
      obtain ⟨v, hv, rv⟩ := r.get h1
      exact ⟨v, start_get (by simpa using hv), rv⟩
    · cases h1
  · rcases g0 h with ⟨_, h2⟩ | ⟨j, e, rfl, h1, h2⟩ | h1
    · cases h2
    · cases h2
    · cases h1
  · rcases g0 h with ⟨_, h2⟩ | ⟨j, e, rfl, h1, h2⟩ | h1
    · cases h2
    · cases h2
    · cases h1
  · rcases g0 h with ⟨h1, h2⟩ | ⟨j, e, _, _, h2⟩ | h1
    · subst h1
      cases h2
      exact ⟨a, rfl, start_get rfl⟩
    · cases h2
    · cases h1
theorem fn_Q {T : Tb} {t : WX → TS} (F : FunD K x qual params body scope dvs kws f fd) (S : FnScope N ps scope) (hp : ∀ ds, pre ds → ds.length + 1 = ps.length)
    (der : ∀ (cdv : Value) (A : Around) (outer : List Env) (s : Shared) (H : Hp) (E : XK), Room k (A.deeper (envOfC qual scope s.heap.objs.size f cdv)) → PSs (cxOf (L2.CX P w) P w K mg base N qual scope f cdv A outer s H E) body (t (wDef E)))
    (h : ∀ (W : WX) ds, pre ds → Xs K W (t W) (argsQ T N ds) (fnP post ds)) : FnOk P w K mg base (L2.CX P w) (k + 1) f fd ps (spQ K T pre post) := by
  have hNl : ps.length ≤ N.length := by have := congrArg List.length S.pre; rw [List.length_take] at this; omega
  refine F.ok S (fun vs H Q E hsp => ?_) fun cdv A outer s H vs Q E hr hsp => ⟨t (wDef E), der cdv A outer s H E hr, ?_⟩
  · obtain ⟨G, a, ws, ds, rfl, _, _, _, r, p, _⟩ := hsp
    rw [List.length_cons, r.length]; exact hp ds p
  · obtain ⟨G, a, ws, ds, rfl, e, n, dq, r, p, k1, k2⟩ := hsp
    have hl : ds.length + 1 ≤ N.length := by rw [hp ds p]; exact hNl
    exact h (wDef E) ds p (some (a, T)) G H G H (L2.start N (.ref a :: ws)) _ (sta_argsQ e n dq r hl) (fun σ' Δ' G' H' e' s' q => k1 .non .non G' H' s'.gr .non q) (fun v d G' H' g rv q => k1 v d G' H' g rv q) (fun _ _ _ _ _ _ z => False.elim z) (fun _ _ _ _ _ _ z => False.elim z) fun C σ' Δ' G' H' e' s' q => k2 C G' H' s'.gr q
end
end
end Ts


namespace Ts
open PySem PySem.Spec PyProof.Rows L2

/-! ### one rule for each operator, whatever its values -/
section
variable {X : Cx}
theorem OpR.or {f : Value → Value → Sem Value} {r r' : R2} (h : OpR X f r) (h' : OpR X f r') : OpR X f (fun x y H Q => r x y H Q ∨ r' x y H Q) := by
  intro pins s σ H x y v u Q I rx ry q
  rcases q with q | q
  · exact h pins s σ H x y v u Q I rx ry q
  · exact h' pins s σ H x y v u Q I rx ry q
theorem CallR.or {f : Value} {r r' : List V → Hp → VK → Prop} (h : CallR X f r) (h' : CallR X f r') : CallR X f (fun xs H Q => r xs H Q ∨ r' xs H Q) := by
  intro pins s σ H xs us Q I rx q
  rcases q with q | q
  · exact h pins s σ H xs us Q I rx q
  · exact h' pins s σ H xs us Q I rx q
theorem SlR.or {r r' : V → Option Int → Option Int → Hp → VK → Prop} (h : SlR X r) (h' : SlR X r') : SlR X (fun x lo hi H Q => r x lo hi H Q ∨ r' x lo hi H Q) := by
  intro pins s σ H x v vl vu lo hi sl Q I rx hs pl pu q
  rcases q with q | q
  · exact h pins s σ H x v vl vu lo hi sl Q I rx hs pl pu q
  · exact h' pins s σ H x v vl vu lo hi sl Q I rx hs pl pu q
theorem PIp.or {op : Operator} {r r' : TIp} (h : PIp X op r) (h' : PIp X op r') : PIp X op (fun x y H Q => r x y H Q ∨ r' x y H Q) := by
  intro pins s σ H x y v u Q I rx ry q
  rcases q with q | q
  · exact h pins s σ H x y v u Q I rx ry q
  · exact h' pins s σ H x y v u Q I rx ry q
theorem pi_or {tg e : Expr} {w w' : TI} (h : PI X tg e w) (h' : PI X tg e w') : PI X tg e (fun σ H R => w σ H R ∨ w' σ H R) := by
  refine ⟨fun pins s σ H R I q => ?_⟩
  rcases q with q | q
  · exact h.run pins s σ H R I q
  · exact h'.run pins s σ H R I q
end
def rAddS : R2 := fun x y H Q => ∃ i j, x = .str i ∧ y = .str j ∧ i.length + j.length ≤ sizeLine ∧ Q (.str (i ++ j)) H
def rAddG (K : PySem.W.Frag) : R2 := fun x y H Q => rI0 (fun i j => .int (i + j)) x y H Q ∨ (rAddS x y H Q ∨ (rCatA K x y H Q ∨ rCat x y H Q))
def rSubG : R2 := rI0 fun i j => .int (i - j)
def rMulG : R2 := fun x y H Q => rI CMul (fun i j => .int (i * j)) x y H Q ∨ (rI CMulW (fun i j => .int (i * j)) x y H Q ∨ rRep x y H Q)
def rDivG : R2 := rI CDivW fun i j => .int (i / j)
def rModG : R2 := rI (fun _ j => 0 < j) fun i j => .int (i % j)
def rPowG : R2 := rI CPow fun i j => .int (i ^ j.toNat)
def rEqG (K : PySem.W.Frag) : R2 := fun x y H Q => rEq x y H Q ∨ rEqD K x y H Q
def rNeG (K : PySem.W.Frag) : R2 := fun x y H Q => rNe x y H Q ∨ rNeD K x y H Q
def rLtS : R2 := fun x y H Q => ∃ i j, x = .str i ∧ y = .str j ∧ Q (.bl (decide (i.cps.toList < j.cps.toList))) H
def rLtG (K : PySem.W.Frag) : R2 := fun x y H Q => rI0 (fun i j => .bl (decide (i < j))) x y H Q ∨ (rLtS x y H Q ∨ rLtT K x y H Q)
def rLeG : R2 := rI0 fun i j => .bl (decide (i ≤ j))
def rGtG : R2 := rI0 fun i j => .bl (decide (j < i))
def rGeG : R2 := rI0 fun i j => .bl (decide (j ≤ i))
def rInS (neg : Bool) : R2 := fun x y H Q => ∃ i j, x = .str i ∧ y = .str j ∧ Q (.bl (if neg then !(!(Builtin.Str.occurrences j i 0 j.length 1).isEmpty) else !(Builtin.Str.occurrences j i 0 j.length 1).isEmpty)) H
def rInG (K : PySem.W.Frag) (neg : Bool) : R2 := fun x y H Q => rIn K neg x y H Q ∨ rInS neg x y H Q
def rIsN : R2 := fun x y H Q => y = .non ∧ Q (.bl (decide (x = .non))) H
def rNotN : R2 := fun x y H Q => y = .non ∧ Q (.bl (!decide (x = .non))) H
def rSlG (K : PySem.W.Frag) : V → Option Int → Option Int → Hp → VK → Prop := fun x lo hi H Q => rSlL K x lo hi H Q ∨ (rSlA K x lo hi H Q ∨ rSlS x lo hi H Q)
def rInt1 : List V → Hp → VK → Prop := fun xs H Q => (∃ i, xs = [.int i] ∧ Q (.int i) H) ∨ ∃ k, xs = [.bl k] ∧ Q (.int (if k then 1 else 0)) H
def rAbs : List V → Hp → VK → Prop := fun xs H Q => ∃ i, xs = [.int i] ∧ Q (.int (if i < 0 then -i else i)) H
def rTupO (K : PySem.W.Frag) : List V → Hp → VK → Prop := fun xs H Q => ∃ p ys, xs = [.ref p] ∧ ((SqL K H p ys ∧ ∀ l, H l = none → Q (.ref l) (upd H l (.tup ys))) ∨ (SqT K H p ys ∧ Q (.ref p) H))
def rLstO (K : PySem.W.Frag) : List V → Hp → VK → Prop := fun xs H Q => ∃ p ys, xs = [.ref p] ∧ (SqL K H p ys ∨ SqT K H p ys) ∧ ∀ l, H l = none → Q (.ref l) (upd H l (.lst ys))
def rMin2 : List V → Hp → VK → Prop := fun xs H Q => ∃ i j, xs = [.int i, .int j] ∧ Q (.int (if j < i then j else i)) H
def rMax2 : List V → Hp → VK → Prop := fun xs H Q => ∃ i j, xs = [.int i, .int j] ∧ Q (.int (if j > i then j else i)) H
def rIns : V → List V → Hp → VK → Prop := fun x vs H Q => ∃ (l : Addr) (xs : List V) (i : Int) (y : V), x = .ref l ∧ vs = [.int i, y] ∧ H l = some (.lst xs) ∧ xs.length < sizeLine ∧ 0 ≤ i ∧ i < 2 ^ 63 ∧
  Q .non (upd H l (.lst (xs.take i.toNat ++ [y] ++ xs.drop i.toNat)))
section
variable {X : Cx}
theorem op_addG : OpR X (binaryOp .Add) (rAddG X.K) := OpR.or op_add (OpR.or op_add_str (OpR.or op_catA op_cat))
theorem op_subG : OpR X (binaryOp .Sub) rSubG := op_sub
theorem op_mulG : OpR X (binaryOp .Mult) rMulG := OpR.or op_mul (OpR.or op_mulW op_rep)
theorem op_divG : OpR X (binaryOp .FloorDiv) rDivG := op_fdivW
theorem op_modG : OpR X (binaryOp .Mod) rModG := op_mod
theorem op_powG : OpR X (binaryOp .Pow) rPowG := op_pow
theorem op_eqG (hu : X.A.units + 64 < cLine) : OpR X (compareOp .Eq) (rEqG X.K) := OpR.or op_eq (op_eqD hu)
theorem op_neG (hu : X.A.units + 64 < cLine) : OpR X (compareOp .NotEq) (rNeG X.K) := OpR.or op_ne (op_neD hu)
theorem op_ltG (hu : X.A.units < cLine) : OpR X (compareOp .Lt) (rLtG X.K) := OpR.or op_lt (OpR.or op_lt_str (op_ltT hu))
theorem op_leG : OpR X (compareOp .LtE) rLeG := op_le
theorem op_gtG : OpR X (compareOp .Gt) rGtG := op_gt
theorem op_geG : OpR X (compareOp .GtE) rGeG := op_ge
theorem op_inG : OpR X (compareOp .In) (rInG X.K false) := OpR.or op_in_seq op_in_str
theorem op_notInG : OpR X (compareOp .NotIn) (rInG X.K true) := OpR.or op_notIn_seq op_notIn_str
theorem op_isNG : OpR X (compareOp .Is) rIsN := op_isN
theorem op_notNG : OpR X (compareOp .IsNot) rNotN := op_notN
theorem sl_G : SlR X (rSlG X.K) := SlR.or sl_list (SlR.or sl_tupA sl_str)
theorem call_lenG : CallR X (.builtin "len") (rLenC X.K) := call_len
theorem call_intG : CallR X (.type "int") rInt1 := call_int1
theorem call_absG : CallR X (.builtin "abs") rAbs := call_abs
theorem call_tupG : CallR X (.type "tuple") (rTupO X.K) := call_tuple_of
theorem call_lstG : CallR X (.type "list") (rLstO X.K) := call_list_of
theorem call_minG (hc : X.calm = true) : CallR X (.builtin "min") rMin2 := call_min2 hc
theorem call_maxG (hc : X.calm = true) : CallR X (.builtin "max") rMax2 := call_max2 hc
end
/-- a walk over a list, a tuple, a text -/
def iSeq (K : PySem.W.Frag) (te : TE) : TI := fun σ H R => iList K te σ H R ∨ (iTup K te σ H R ∨ iStr te σ H R)
theorem pi_seq {X : Cx} {tg e : Expr} {te : TE} (h : PE X e te) : PI X tg e (iSeq X.K te) := pi_or (pi_list h) (pi_or (pi_tup h) (pi_str h))

/-! ### the operations over data -/
section
variable {K : PySem.W.Frag}
theorem ret1 {G H : Hp} {v : V} {d : D} {Q : VK} (e : Exx G H) (r : Rp K G v d) (k : ∀ (u : V) (d' : D) (G' H' : Hp), Gr none G H G' H' → Rp K G' u d' → d' = d → Q u H') : Q v H := k v d G H (Gr.refl e) r rfl
theorem od_int {g : Int → Int → V} {h : Int → Int → D} {i j : Int} (hg : ∀ G, Rp K G (g i j) (h i j)) : OpD K (rI0 g) (.int i) (.int j) (· = h i j) := fun G H v w Q e r1 r2 k => by
  cases r1; cases r2
  exact ⟨i, j, rfl, rfl, ret1 e (hg G) k⟩
theorem od_intC {C : Int → Int → Prop} {g : Int → Int → V} {h : Int → Int → D} {i j : Int} (hc : C i j) (hg : ∀ G, Rp K G (g i j) (h i j)) : OpD K (rI C g) (.int i) (.int j) (· = h i j) := fun G H v w Q e r1 r2 k => by
  cases r1; cases r2
  exact ⟨i, j, rfl, rfl, hc, ret1 e (hg G) k⟩
theorem od_inl {r r' : R2} {x y : D} {R : D → Prop} (h : OpD K r x y R) : OpD K (fun x y H Q => r x y H Q ∨ r' x y H Q) x y R := fun G H v w Q e r1 r2 k => .inl (h G H v w Q e r1 r2 k)
theorem od_inr {r r' : R2} {x y : D} {R : D → Prop} (h : OpD K r' x y R) : OpD K (fun x y H Q => r x y H Q ∨ r' x y H Q) x y R := fun G H v w Q e r1 r2 k => .inr (h G H v w Q e r1 r2 k)
theorem od_add {i j : Int} : OpD K (rAddG K) (.int i) (.int j) (· = .int (i + j)) := od_inl (od_int (g := fun i j => .int (i + j)) (h := fun i j => .int (i + j)) fun G => .int _)
theorem od_sub {i j : Int} : OpD K rSubG (.int i) (.int j) (· = .int (i - j)) := od_int (g := fun i j => .int (i - j)) (h := fun i j => .int (i - j)) fun G => .int _
theorem od_mul {i j : Int} (h : CMul i j) : OpD K rMulG (.int i) (.int j) (· = .int (i * j)) := od_inl (od_intC (g := fun i j => .int (i * j)) (h := fun i j => .int (i * j)) h fun G => .int _)
theorem od_mulW {i j : Int} (h : CMulW i j) : OpD K rMulG (.int i) (.int j) (· = .int (i * j)) := od_inr (od_inl (od_intC (g := fun i j => .int (i * j)) (h := fun i j => .int (i * j)) h fun G => .int _))
theorem od_div {i j : Int} (h : CDivW i j) : OpD K rDivG (.int i) (.int j) (· = .int (i / j)) := od_intC (g := fun i j => .int (i / j)) (h := fun i j => .int (i / j)) h fun G => .int _
theorem od_mod {i j : Int} (h : 0 < j) : OpD K rModG (.int i) (.int j) (· = .int (i % j)) := od_intC (g := fun i j => .int (i % j)) (h := fun i j => .int (i % j)) h fun G => .int _
theorem od_pow {i j : Int} (h : CPow i j) : OpD K rPowG (.int i) (.int j) (· = .int (i ^ j.toNat)) := od_intC (g := fun i j => .int (i ^ j.toNat)) (h := fun i j => .int (i ^ j.toNat)) h fun G => .int _
theorem od_lt {i j : Int} : OpD K (rLtG K) (.int i) (.int j) (· = .bl (decide (i < j))) := od_inl (od_int (g := fun i j => .bl (decide (i < j))) (h := fun i j => .bl (decide (i < j))) fun G => .bl _)
theorem od_le {i j : Int} : OpD K rLeG (.int i) (.int j) (· = .bl (decide (i ≤ j))) := od_int (g := fun i j => .bl (decide (i ≤ j))) (h := fun i j => .bl (decide (i ≤ j))) fun G => .bl _
theorem od_gt {i j : Int} : OpD K rGtG (.int i) (.int j) (· = .bl (decide (j < i))) := od_int (g := fun i j => .bl (decide (j < i))) (h := fun i j => .bl (decide (j < i))) fun G => .bl _
theorem od_ge {i j : Int} : OpD K rGeG (.int i) (.int j) (· = .bl (decide (j ≤ i))) := od_int (g := fun i j => .bl (decide (j ≤ i))) (h := fun i j => .bl (decide (j ≤ i))) fun G => .bl _
/-- scalars, as values -/
def D.v : D → Option V
  | .non => some .non
  | .bl b => some (.bl b)
  | .int i => some (.int i)
  | .str x => some (.str x)
  | _ => none
theorem Rp.sc {G : Hp} {v w : V} {d : D} (r : Rp K G v d) (h : d.v = some w) : v = w := by
  cases r <;> cases h <;> rfl
theorem od_eqS {x y : D} {v w : V} (hx : x.v = some v) (hy : y.v = some w) (hs : scal v w = true) : OpD K (rEqG K) x y (· = .bl (decide (v = w))) := fun G H v' w' Q e r1 r2 k => by
  rw [r1.sc hx, r2.sc hy]
  exact .inl ⟨hs, ret1 e (.bl _) k⟩
theorem od_neS {x y : D} {v w : V} (hx : x.v = some v) (hy : y.v = some w) (hs : scal v w = true) : OpD K (rNeG K) x y (· = .bl (!decide (v = w))) := fun G H v' w' Q e r1 r2 k => by
  rw [r1.sc hx, r2.sc hy]
  exact .inl ⟨hs, ret1 e (.bl _) k⟩
theorem od_eqI {i j : Int} : OpD K (rEqG K) (.int i) (.int j) (· = .bl (decide (i = j))) := by
  have h : OpD K (rEqG K) (.int i) (.int j) (· = .bl (decide (V.int i = V.int j))) := od_eqS rfl rfl rfl
  have e : decide (V.int i = V.int j) = decide (i = j) := by rw [Bool.eq_iff_iff]; simp
  rw [e] at h
  exact h
theorem od_neI {i j : Int} : OpD K (rNeG K) (.int i) (.int j) (· = .bl (!decide (i = j))) := by
  have h : OpD K (rNeG K) (.int i) (.int j) (· = .bl (!decide (V.int i = V.int j))) := od_neS rfl rfl rfl
  have e : decide (V.int i = V.int j) = decide (i = j) := by rw [Bool.eq_iff_iff]; simp
  rw [e] at h
  exact h
theorem od_eqB {i j : Bool} : OpD K (rEqG K) (.bl i) (.bl j) (· = .bl (i == j)) := by
  have h : OpD K (rEqG K) (.bl i) (.bl j) (· = .bl (decide (V.bl i = V.bl j))) := od_eqS rfl rfl rfl
  rw [dec_bl] at h
  exact h
theorem od_neB {i j : Bool} : OpD K (rNeG K) (.bl i) (.bl j) (· = .bl (i != j)) := by
  have h : OpD K (rNeG K) (.bl i) (.bl j) (· = .bl (!decide (V.bl i = V.bl j))) := od_neS rfl rfl rfl
  rw [dec_bl] at h
  exact h
theorem od_eqX {i j : Str} : OpD K (rEqG K) (.str i) (.str j) (· = .bl (decide (i = j))) := by
  have h : OpD K (rEqG K) (.str i) (.str j) (· = .bl (decide (V.str i = V.str j))) := od_eqS rfl rfl rfl
  have e : decide (V.str i = V.str j) = decide (i = j) := by rw [Bool.eq_iff_iff]; simp
  rw [e] at h
  exact h
theorem od_neX {i j : Str} : OpD K (rNeG K) (.str i) (.str j) (· = .bl (!decide (i = j))) := by
  have h : OpD K (rNeG K) (.str i) (.str j) (· = .bl (!decide (V.str i = V.str j))) := od_neS rfl rfl rfl
  have e : decide (V.str i = V.str j) = decide (i = j) := by rw [Bool.eq_iff_iff]; simp
  rw [e] at h
  exact h
/-! deep == -/
mutual
def D.py : D → PyData
  | .non => .none
  | .bl b => .bool b
  | .int i => .int i
  | .str x => .str x
  | .lst xs => .list (D.pys xs)
  | .tup xs => .tuple (D.pys xs)
  | .obj _ _ => .none
def D.pys : List D → List PyData
  | [] => []
  | d :: ds => d.py :: D.pys ds
end
mutual
/-- no instance within -/
def D.pure : D → Bool
  | .lst xs => D.pures xs
  | .tup xs => D.pures xs
  | .obj _ _ => false
  | _ => true
def D.pures : List D → Bool
  | [] => true
  | d :: ds => d.pure && D.pures ds
end
mutual
theorem Rp.dp {G H : Hp} (e : Exx G H) : ∀ {v : V} {d : D}, Rp K G v d → d.pure = true → Dp K H v d.py
  | _, _, .non, _ => .non
  | _, _, .bl b, _ => .bl b
  | _, _, .int i, _ => .int i
  | _, _, .str x, _ => .str x
  | _, _, .lst h r, p => .lst (.inl (.inl (e.l h))) (RpL.dp e r p)
  | _, _, .tup h r, p => .tup (st_ex e h) (RpL.dp e r p)
  | _, _, .obj h r, p => nomatch p
theorem RpL.dp {G H : Hp} (e : Exx G H) : ∀ {vs : List V} {ds : List D}, RpL K G vs ds → D.pures ds = true → DpAll K H vs (D.pys ds)
  | _, _, .nil, _ => .nil
  | _, _, .cons h r, p => by
    have p' := Bool.and_eq_true_iff.mp p
    exact .cons (Rp.dp e h p'.1) (RpL.dp e r p'.2)
end
/-- what == can look at -/
def D.ok (d : D) : Bool := d.pure && SeqAt.shaped d.py
theorem od_eqD {x y : D} (hx : x.ok = true) (hy : y.ok = true) : OpD K (rEqG K) x y (· = .bl (PyData.eqv x.py y.py)) := fun G H v w Q e r1 r2 k => by
  obtain ⟨a1, a2⟩ := Bool.and_eq_true_iff.mp hx
  obtain ⟨b1, b2⟩ := Bool.and_eq_true_iff.mp hy
  exact .inr ⟨_, _, r1.dp e a1, r2.dp e b1, a2, b2, ret1 e (.bl _) k⟩
theorem od_neD {x y : D} (hx : x.ok = true) (hy : y.ok = true) : OpD K (rNeG K) x y (· = .bl (!PyData.eqv x.py y.py)) := fun G H v w Q e r1 r2 k => by
  obtain ⟨a1, a2⟩ := Bool.and_eq_true_iff.mp hx
  obtain ⟨b1, b2⟩ := Bool.and_eq_true_iff.mp hy
  exact .inr ⟨_, _, r1.dp e a1, r2.dp e b1, a2, b2, ret1 e (.bl _) k⟩
theorem D.eqv_self {d : D} (h : d.ok = true) : PyData.eqv d.py d.py = true := SeqAt.eqv_refl d.py (SeqAt.canLay_of_shaped (Bool.and_eq_true_iff.mp h).2)
theorem od_neSelf {x y : D} (hx : x.ok = true) (e : x = y) : OpD K (rNeG K) x y (· = .bl false) := by
  subst e
  have h := od_neD (K := K) hx hx
  rw [D.eqv_self hx] at h
  exact h
theorem od_eqSelf {x y : D} (hx : x.ok = true) (e : x = y) : OpD K (rEqG K) x y (· = .bl true) := by
  subst e
  have h := od_eqD (K := K) hx hx
  rw [D.eqv_self hx] at h
  exact h
/-! places -/
theorem RpL.at_ {G : Hp} {vs : List V} {ds : List D} {i : Int} {d : D} (r : RpL K G vs ds) (h : atI ds i = some d) : ∃ v, atI vs i = some v ∧ Rp K G v d := by
  unfold atI at h ⊢
  rw [r.length]
  cases e : ixN ds.length i with
  | none => rw [e] at h; cases h
  | some l =>
    rw [e] at h
    exact r.get h
theorem od_ixL {ds : List D} {i : Int} {d : D} (h : atI ds i = some d) : OpD K (rIx K) (.lst ds) (.int i) (· = d) := fun G H v w Q e r1 r2 k => by
  cases r2
  obtain ⟨a, xs, rfl, ha, hr⟩ := r1.lst_inv
  obtain ⟨u, h1, h2⟩ := hr.at_ h
  exact .inl ⟨a, xs, i, u, rfl, rfl, .inl (.inl (e.l ha)), h1, ret1 e h2 k⟩
theorem od_ixT {ds : List D} {i : Int} {d : D} (h : atI ds i = some d) : OpD K (rIx K) (.tup ds) (.int i) (· = d) := fun G H v w Q e r1 r2 k => by
  cases r2
  obtain ⟨a, xs, rfl, ha, hr⟩ := r1.tup_inv
  obtain ⟨u, h1, h2⟩ := hr.at_ h
  exact .inr (.inl ⟨a, xs, i, u, rfl, rfl, st_ex e ha, h1, ret1 e h2 k⟩)
theorem od_ixS {z : Str} {i : Int} {c : Nat} (hz : z.length ≤ sizeLine) (h : atI z.cps.toList i = some c) : OpD K (rIx K) (.str z) (.int i) (· = .str ⟨#[c]⟩) := fun G H v w Q e r1 r2 k => by
  cases r2
  cases r1
  exact .inr (.inr ⟨z, i, c, rfl, rfl, hz, h, ret1 e (.str _) k⟩)
theorem atI_nn {α : Type} {xs : List α} {i : Int} {d : α} (h0 : 0 ≤ i) (h : xs[i.toNat]? = some d) : atI xs i = some d := by
  have := atI_nat h
  rwa [Int.toNat_of_nonneg h0] at this
/-! joining -/
theorem od_catT {xs ys : List D} (hz : xs.length + ys.length ≤ sizeLine) : OpD K (rAddG K) (.tup xs) (.tup ys) (· = .tup (xs ++ ys)) := fun G H v w Q e r1 r2 k => by
  obtain ⟨a, as, rfl, ha, hr⟩ := r1.tup_inv
  obtain ⟨b, bs, rfl, hb, hs⟩ := r2.tup_inv
  have la := hr.length
  have lb := hs.length
  refine .inr (.inr (.inl ⟨a, b, as, bs, rfl, rfl, st_ex e ha, st_ex e hb, by omega, fun z => ?_, fun _ z => ?_, fun _ _ p hp => ?_⟩))
  · subst z
    cases hr
    exact ret1 e (.tup hb hs) k
  · subst z
    cases hs
    exact ret1 e (.tup ha (by rw [List.append_nil]; exact hr)) k
  · have g := Gr.new (o := .tup (as ++ bs)) e hp
    exact k _ _ _ _ g (.tup (.inl (.inl upd_same)) ((hr.append hs).ex g.ex)) rfl
theorem od_catL {xs ys : List D} (hz : xs.length + ys.length ≤ sizeLine) : OpD K (rAddG K) (.lst xs) (.lst ys) (· = .lst (xs ++ ys)) := fun G H v w Q e r1 r2 k => by
  obtain ⟨a, as, rfl, ha, hr⟩ := r1.lst_inv
  obtain ⟨b, bs, rfl, hb, hs⟩ := r2.lst_inv
  have la := hr.length
  have lb := hs.length
  refine .inr (.inr (.inr ⟨a, b, as, bs, rfl, rfl, e.l ha, e.l hb, by omega, fun p hp => ?_⟩))
  have g := Gr.new (o := .lst (as ++ bs)) e hp
  exact k _ _ _ _ g (.lst upd_same ((hr.append hs).ex g.ex)) rfl
theorem od_catS {x y : Str} (hz : x.length + y.length ≤ sizeLine) : OpD K (rAddG K) (.str x) (.str y) (· = .str (x ++ y)) := fun G H v w Q e r1 r2 k => by
  cases r1; cases r2
  exact .inr (.inl ⟨x, y, rfl, rfl, hz, ret1 e (.str _) k⟩)
theorem od_repL {xs : List D} {n : Int} (h1 : -(2 ^ 63) ≤ n) (h2 : n < 2 ^ 63) (hz : xs.length * n.toNat ≤ sizeLine) : OpD K rMulG (.lst xs) (.int n) (· = .lst (List.replicate n.toNat xs).flatten) := fun G H v w Q e r1 r2 k => by
  cases r2
  obtain ⟨a, as, rfl, ha, hr⟩ := r1.lst_inv
  refine .inr (.inr ⟨a, n, as, rfl, rfl, e.l ha, h1, h2, by rw [hr.length]; exact hz, fun p hp => ?_⟩)
  have g := Gr.new (o := .lst (List.replicate n.toNat as).flatten) e hp
  have rr : ∀ m : Nat, RpL K G (List.replicate m as).flatten (List.replicate m xs).flatten := fun m => by
    induction m with
    | zero => exact .nil
    | succ m ih =>
      rw [List.replicate_succ, List.replicate_succ, List.flatten_cons, List.flatten_cons]
      exact hr.append ih
  exact k _ _ _ _ g (.lst upd_same ((rr _).ex g.ex)) rfl
/-! cutting -/
def cutD (xs : List D) (lo hi : Option Int) : List D := (xs.drop (HT.sIx xs.length 0 lo)).take (HT.sIx xs.length xs.length hi - HT.sIx xs.length 0 lo)
theorem RpL.cut {G : Hp} {vs : List V} {ds : List D} (r : RpL K G vs ds) (lo hi : Option Int) : RpL K G (cutV vs lo hi) (cutD ds lo hi) := by
  unfold cutV cutD
  rw [r.length]
  exact (r.drop _).take _
theorem sd_lst {xs : List D} {lo hi : Option Int} : SlD K (rSlG K) (.lst xs) lo hi (· = .lst (cutD xs lo hi)) := fun G H v Q e r k => by
  obtain ⟨a, as, rfl, ha, hr⟩ := r.lst_inv
  refine .inl ⟨a, as, rfl, .inl (.inl (e.l ha)), fun p hp => ?_⟩
  have g := Gr.new (o := .lst (cutV as lo hi)) e hp
  exact k _ _ _ _ g (.lst upd_same ((hr.cut lo hi).ex g.ex)) rfl
theorem sd_tup {xs : List D} {lo hi : Option Int} : SlD K (rSlG K) (.tup xs) lo hi (· = .tup (cutD xs lo hi)) := fun G H v Q e r k => by
  obtain ⟨a, as, rfl, ha, hr⟩ := r.tup_inv
  refine .inr (.inl ⟨a, as, rfl, st_ex e ha, fun z => ?_, fun _ p hp => ?_⟩)
  · refine k _ _ _ _ (Gr.refl e) (.tup ha hr) ?_
    rw [hr.length] at z
    unfold cutD
    rw [z.1, z.2]
    simp
  · have g := Gr.new (o := .tup (cutV as lo hi)) e hp
    exact k _ _ _ _ g (.tup (.inl (.inl upd_same)) ((hr.cut lo hi).ex g.ex)) rfl
theorem sd_str {z : Str} {lo hi : Option Int} (hz : z.length ≤ sizeLine) : SlD K (rSlG K) (.str z) lo hi (· = .str (cutS z lo hi)) := fun G H v Q e r k => by
  cases r
  exact .inr (.inr ⟨z, rfl, hz, ret1 e (.str _) k⟩)
theorem cutD_nn {xs : List D} {a b : Nat} : cutD xs (some (a : Int)) (some (b : Int)) = (xs.take b).drop a := by
  unfold cutD
  rw [HT.sIx_nat, HT.sIx_nat]
  rw [List.drop_take]
  by_cases h : a ≤ xs.length
  · rw [Nat.min_eq_left h]
    by_cases hb : b ≤ xs.length
    · rw [Nat.min_eq_left hb]
    · rw [Nat.min_eq_right (by omega), List.take_of_length_le (by rw [List.length_drop]; omega), List.take_of_length_le (by rw [List.length_drop]; omega)]
  · rw [Nat.min_eq_right (show xs.length ≤ a by omega), List.drop_eq_nil_of_le (Nat.le_refl _), List.drop_eq_nil_of_le (show xs.length ≤ a by omega)]
    simp
theorem cutD_from {xs : List D} {a : Nat} : cutD xs (some (a : Int)) none = xs.drop a := by
  unfold cutD
  rw [HT.sIx_nat, HT.sIx_none]
  by_cases h : a ≤ xs.length
  · rw [Nat.min_eq_left h, List.take_of_length_le (by rw [List.length_drop]; omega)]
  · rw [List.drop_eq_nil_of_le (show xs.length ≤ a by omega), Nat.min_eq_right (by omega), List.drop_eq_nil_of_le (Nat.le_refl _)]
    simp
theorem cutD_to {xs : List D} {b : Nat} : cutD xs none (some (b : Int)) = xs.take b := by
  unfold cutD
  rw [HT.sIx_nat, HT.sIx_none]
  by_cases hb : b ≤ xs.length
  · rw [Nat.min_eq_left hb]; simp
  · rw [Nat.min_eq_right (by omega), List.take_of_length_le (show xs.length ≤ b by omega)]; simp
theorem cutD_all {xs : List D} : cutD xs none none = xs := by
  unfold cutD
  rw [HT.sIx_none, HT.sIx_none]
  simp
/-! in -/
def D.inB (x : V) (vs : List V) : Bool := inV x vs
theorem od_inT {neg : Bool} {x : D} {v : V} {ds : List D} {vs : List V} (hx : x.v = some v) (hv : ds.map D.v = vs.map some) (fx : flatV v = true) (fs : vs.all flatV = true) : OpD K (rInG K neg) x (.tup ds) (· = .bl (if neg then !inV v vs else inV v vs)) := fun G H v' w Q e r1 r2 k => by
  obtain ⟨a, as, rfl, ha, hr⟩ := r2.tup_inv
  have ev : v' = v := r1.sc hx
  have eq : ∀ {as : List V} {ds : List D} {vs : List V}, RpL K G as ds → ds.map D.v = vs.map some → as = vs := by
    intro as
    induction as with
    | nil =>
      intro ds vs r h
      cases r
      cases vs with
      | nil => rfl
      | cons _ _ => cases h
    | cons a as ih =>
      intro ds vs r h
      cases r with
      | cons ra rr =>
        cases vs with
        | nil => cases h
        | cons u us =>
          rw [List.map_cons, List.map_cons] at h
          injection h with h1 h2
          rw [ra.sc h1, ih rr h2]
  have e2 := eq hr hv
  subst e2
  subst ev
  exact .inl ⟨a, as, rfl, .inr (st_ex e ha), fx, fs, ret1 e (.bl _) k⟩
def D.isN : D → Bool
  | .non => true
  | _ => false
theorem od_isN {x : D} : OpD K rIsN x .non (· = .bl x.isN) := fun G H v w Q e r1 r2 k => by
  cases r2
  refine ⟨rfl, ?_⟩
  have : decide (v = .non) = x.isN := by cases r1 <;> simp [D.isN]
  rw [this]
  exact ret1 e (.bl _) k
theorem od_notN {x : D} : OpD K rNotN x .non (· = .bl (!x.isN)) := fun G H v w Q e r1 r2 k => by
  cases r2
  refine ⟨rfl, ?_⟩
  have : (!decide (v = .non)) = (!x.isN) := by cases r1 <;> simp [D.isN]
  rw [this]
  exact ret1 e (.bl _) k
/-! calls of built-ins -/
theorem cd_lenL {ds : List D} : CbD K (rLenC K) [.lst ds] (· = .int ds.length) := fun G H vs Q e r k => by
  cases r with
  | cons ra rr =>
    cases rr
    obtain ⟨a, as, rfl, ha, hr⟩ := ra.lst_inv
    exact ⟨_, as.length, rfl, .inl ⟨as, .inl (.inl (e.l ha)), rfl⟩, by rw [hr.length]; exact ret1 e (.int _) k⟩
theorem cd_lenT {ds : List D} : CbD K (rLenC K) [.tup ds] (· = .int ds.length) := fun G H vs Q e r k => by
  cases r with
  | cons ra rr =>
    cases rr
    obtain ⟨a, as, rfl, ha, hr⟩ := ra.tup_inv
    exact ⟨_, as.length, rfl, .inr ⟨as, st_ex e ha, rfl⟩, by rw [hr.length]; exact ret1 e (.int _) k⟩
theorem cd_lenS {z : Str} (hz : z.length ≤ sizeLine) : CbD K (rLenC K) [.str z] (· = .int z.length) := fun G H vs Q e r k => by
  cases r with
  | cons ra rr =>
    cases rr
    cases ra
    exact ⟨_, z.length, rfl, ⟨hz, rfl⟩, ret1 e (.int _) k⟩
theorem cd_intI {i : Int} : CbD K rInt1 [.int i] (· = .int i) := fun G H vs Q e r k => by
  cases r with
  | cons ra rr =>
    cases rr
    cases ra
    exact .inl ⟨i, rfl, ret1 e (.int _) k⟩
theorem cd_intB {b : Bool} : CbD K rInt1 [.bl b] (· = .int (if b then 1 else 0)) := fun G H vs Q e r k => by
  cases r with
  | cons ra rr =>
    cases rr
    cases ra
    exact .inr ⟨b, rfl, ret1 e (.int _) k⟩
theorem cd_abs {i : Int} : CbD K rAbs [.int i] (· = .int (if i < 0 then -i else i)) := fun G H vs Q e r k => by
  cases r with
  | cons ra rr =>
    cases rr
    cases ra
    exact ⟨i, rfl, ret1 e (.int _) k⟩
theorem cd_min {i j : Int} : CbD K rMin2 [.int i, .int j] (· = .int (if j < i then j else i)) := fun G H vs Q e r k => by
  cases r with
  | cons ra rr =>
    cases rr with
    | cons rb rr =>
      cases rr
      cases ra
      cases rb
      exact ⟨i, j, rfl, ret1 e (.int _) k⟩
theorem cd_max {i j : Int} : CbD K rMax2 [.int i, .int j] (· = .int (if j > i then j else i)) := fun G H vs Q e r k => by
  cases r with
  | cons ra rr =>
    cases rr with
    | cons rb rr =>
      cases rr
      cases ra
      cases rb
      exact ⟨i, j, rfl, ret1 e (.int _) k⟩
theorem cd_tupL {ds : List D} : CbD K (rTupO K) [.lst ds] (· = .tup ds) := fun G H vs Q e r k => by
  cases r with
  | cons ra rr =>
    cases rr
    obtain ⟨a, as, rfl, ha, hr⟩ := ra.lst_inv
    refine ⟨a, as, rfl, .inl ⟨.inl (.inl (e.l ha)), fun p hp => ?_⟩⟩
    have g := Gr.new (o := .tup as) e hp
    exact k _ _ _ _ g (.tup (.inl (.inl upd_same)) (hr.ex g.ex)) rfl
theorem cd_tupT {ds : List D} : CbD K (rTupO K) [.tup ds] (· = .tup ds) := fun G H vs Q e r k => by
  cases r with
  | cons ra rr =>
    cases rr
    obtain ⟨a, as, rfl, ha, hr⟩ := ra.tup_inv
    exact ⟨a, as, rfl, .inr ⟨st_ex e ha, ret1 e (.tup ha hr) k⟩⟩
theorem cd_lstL {ds : List D} : CbD K (rLstO K) [.lst ds] (· = .lst ds) := fun G H vs Q e r k => by
  cases r with
  | cons ra rr =>
    cases rr
    obtain ⟨a, as, rfl, ha, hr⟩ := ra.lst_inv
    refine ⟨a, as, rfl, .inl (.inl (.inl (e.l ha))), fun p hp => ?_⟩
    have g := Gr.new (o := .lst as) e hp
    exact k _ _ _ _ g (.lst upd_same (hr.ex g.ex)) rfl
theorem cd_lstT {ds : List D} : CbD K (rLstO K) [.tup ds] (· = .lst ds) := fun G H vs Q e r k => by
  cases r with
  | cons ra rr =>
    cases rr
    obtain ⟨a, as, rfl, ha, hr⟩ := ra.tup_inv
    refine ⟨a, as, rfl, .inr (st_ex e ha), fun p hp => ?_⟩
    have g := Gr.new (o := .lst as) e hp
    exact k _ _ _ _ g (.lst upd_same (hr.ex g.ex)) rfl
/-- xs.insert(i, e), xs a list of one's own -/
theorem xs_ins {W : WX} {Δ : En} {post : Out → Prop} {ta tb : TE} {i : Nat} {ds : List D} {j : Int} {d : D} (hi : Δ[i]? = some (Sl.own ds)) (hl : ds.length < sizeLine) (h1 : Ev K (WE W) ta Δ (· = .int j) fun _ => False) (h2 : Ev K (WE W) tb Δ (· = d) fun _ => False)
    (hj : 0 ≤ j) (hj2 : j < 2 ^ 63) (k : post (.nx (Δ.set i (.own (ds.take j.toNat ++ [d] ++ ds.drop j.toNat))))) : Xs K W (tDrop (tBM K "list" rIns (tVar i) (tCons ta (tCons tb tNil)))) Δ post := fun q G0 H0 G H σ T s k1 k2 k3 k4 k5 => by
  obtain ⟨p, vs, a1, a2, a3, a4, a5, a6⟩ := s.rs.own i ds hi
  refine ⟨_, a1, .inl ⟨rfl, vs, .inl (.inl a2)⟩, ?_⟩
  refine h1 q G0 H0 G H σ _ s (fun v d1 G1 H1 g1 r1 p1 => ?_) fun _ _ _ _ z => z.elim
  refine h2 q G0 H0 G1 H1 σ _ (s.go g1) (fun w d2 G2 H2 g2 r2 p2 => ?_) fun _ _ _ _ z => z.elim
  subst p1; subst p2
  cases r1
  have g := s.tr g1 g2
  have s2 := s.go g
  refine ⟨p, vs, j, w, rfl, rfl, g.kl a6 a2, by rw [a3.length]; exact hl, hj, hj2, ?_⟩
  have r := a3.ex g.ex
  exact k1 σ _ G2 _ g.ex (s2.change hi a1 (((r.take _).append (.cons r2 .nil)).append (r.drop _))) k
end
end Ts


namespace Ts
open PySem PySem.Spec PyProof.Rows L2

/-! ### a def that may be called by its name -/
structure Cal (P : Program) (w : World) (K : PySem.W.Frag) (mg : Str → Option Value) (base : Heap) (k : Nat) (x : Str) (sp : Sp) : Prop where
  ex : ∃ (f : Addr) (fd : FuncData) (ps : List Str), FnOk P w K mg base (L2.CX P w) k f fd ps sp ∧ mg x = some (.ref f) ∧ PySem.W.keepIn K (.ref f) = true ∧ Binds K fd ps []
section
variable {X : Cx} {k j : Nat} {x : Str} {sp : Sp} {E : L2.St → XK} {p pos : Pos} {e : Expr} {es : List Expr} {t : TA}
theorem pe_cal (c : Cal X.prog X.w X.K X.mg X.base k x sp) (hr : Room j X.A) (hk : k ≤ j) (hg : Gl X x) (hx : ∀ σ, PassesAt (L2.CX X.prog X.w) X σ (E σ)) (ha : PA X (e :: es) t)
    (hdb : (x == ("__debug__" : Str)) = false := by decide) (he : starEach (e :: es) X.env = (false, eval e X.env) :: starEach es X.env := by rfl) (hpl : (backTo pos (starEach es X.env)).any (·.1) = false := by rfl) :
    PE X (.Call (.Name x p) (e :: es) [] pos) (tCallS sp E t) := by
  obtain ⟨f, fd, ps, F, hm, kp, b⟩ := c.ex
  exact pe_callS F (hr.mono hk) hg hm kp b hx ha hdb he hpl
theorem passE {X : Cx} {σ : L2.St} : PassesAt (L2.CX X.prog X.w) X σ (E00 σ) := fun pins H s e s' I c => by
  obtain ⟨_, _, _, _, _, _, _, _, _, _, _, _, _, _, _, _, z⟩ := c
/-! constants of the module -/
theorem pe_globI {x : Str} {i : Int} {p : Pos} (hm : ∃ t, X.mg x = some (.int i t)) (hg : Gl X x := by rfl) (hd : (x == ("__debug__" : Str)) = false := by decide) : PE X (.Name x p) (tC (.int i)) := by
  obtain ⟨t, e⟩ := hm
  exact pe_glob hg e ⟨t, rfl⟩ hd
theorem pe_globS {x z : Str} {p : Pos} (hm : ∃ t, X.mg x = some (.str z t)) (hg : Gl X x := by rfl) (hd : (x == ("__debug__" : Str)) = false := by decide) : PE X (.Name x p) (tC (.str z)) := by
  obtain ⟨t, e⟩ := hm
  exact pe_glob hg e ⟨t, rfl⟩ hd
theorem pe_globR {x : Str} {a : Addr} {p : Pos} (hm : X.mg x = some (.ref a)) (hg : Gl X x := by rfl) (hd : (x == ("__debug__" : Str)) = false := by decide) : PE X (.Name x p) (tC (.ref a)) := pe_glob hg hm rfl hd
end

/-! ### x += y, x -= y, whatever the values -/
def rIAddG : TIp := fun x y H Q => ipI (fun i j => i + j) x y H Q ∨ ∃ i j : Str, x = .str i ∧ y = .str j ∧ i.length + j.length ≤ sizeLine ∧ Q (.str (i ++ j)) H
def rISubG : TIp := ipI fun i j => i - j
theorem ip_adds {X : Cx} : PIp X .Add (fun x y H Q => ∃ i j : Str, x = .str i ∧ y = .str j ∧ i.length + j.length ≤ sizeLine ∧ Q (.str (i ++ j)) H) := by
  intro pins s σ H x y v u Q I r1 r2 h
  obtain ⟨i, j, e1, e2, hz, q⟩ := h
  subst e1; subst e2
  obtain ⟨t, rfl⟩ := r1
  obtain ⟨t', rfl⟩ := r2
  exact PyProof.Rows.iadd_str (fun t' tk => ⟨.str _, H, I.tok _, ⟨_, rfl⟩, q⟩) hz
theorem ip_addG {X : Cx} : PIp X .Add rIAddG := PIp.or ip_add ip_adds
theorem ip_subG {X : Cx} : PIp X .Sub rISubG := ip_sub
section
variable {K : PySem.W.Frag}
theorem ip_i {f : Int → Int → Int} {i j : Int} : OpD K (ipI f) (.int i) (.int j) (· = .int (f i j)) := fun G H v w Q e r1 r2 k => by
  cases r1; cases r2
  exact ⟨i, j, rfl, rfl, ret1 e (.int _) k⟩
theorem iad {i j : Int} : OpD K rIAddG (.int i) (.int j) (· = .int (i + j)) := od_inl ip_i
theorem isu {i j : Int} : OpD K rISubG (.int i) (.int j) (· = .int (i - j)) := ip_i
theorem iads {i j : Str} (hz : i.length + j.length ≤ sizeLine) : OpD K rIAddG (.str i) (.str j) (· = .str (i ++ j)) := fun G H v w Q e r1 r2 k => by
  cases r1; cases r2
  exact .inr ⟨i, j, rfl, rfl, hz, ret1 e (.str _) k⟩
end

/-! ### len(range(a, b, c)) -/
def rLenRng3 : List V → Hp → VK → Prop := fun vs H Q => ∃ (i j c : Int) (n : Nat), vs = [.int i, .int j, .int c] ∧ RgC i j c n ∧ (n : Int) < 2 ^ 62 ∧ Q (.int n) H
theorem pe_lenRng3 {X : Cx} {a b c : Expr} {ta : TA} {p p2 pos pos2 : Pos} (hg : Gl X "len") (hm : X.mg "len" = none) (hg2 : Gl X "range") (hm2 : X.mg "range" = none) (ha : PA X [a, b, c] ta)
    (hs : starEach [a, b, c] X.env = (false, eval a X.env) :: starEach [b, c] X.env := by rfl) (hpl : (backTo pos2 (starEach [b, c] X.env)).any (·.1) = false := by rfl)
    (na : starEach [Expr.Call (.Name "range" p2) [a, b, c] [] pos2] X.env = (false, eval (.Call (.Name "range" p2) [a, b, c] [] pos2) X.env) :: starEach [] X.env := by rfl) :
    PE X (.Call (.Name "len" p) [.Call (.Name "range" p2) [a, b, c] [] pos2] [] pos) (tCB rLenRng3 ta) := by
  refine ⟨fun pins s σ H Q I h => ?_⟩
  refine Call_ (ld_blt I hg hm boot_len ?_)
  refine PyProof.Rows.callWith_builtin1 (PyProof.Rows.args_cons ?_ rfl) rfl rfl
  refine Call_ (ld_blt I hg2 hm2 boot_range (PyProof.Rows.callWith_type1 (thn (ha.run pos2 pins s σ H _ I h) fun us s1 ⟨vs, H1, I1, r1, q1⟩ => ?_) hs hpl))
  obtain ⟨i, j, k, n, e, ⟨c0, c1, c2, c3⟩, hn, q⟩ := q1
  subst e
  cases r1 with
  | cons r rr =>
    cases rr with
    | cons r' rr =>
      cases rr with
      | cons r'' rr =>
        cases rr
        obtain ⟨t, rfl⟩ := r
        obtain ⟨t', rfl⟩ := r'
        obtain ⟨t'', rfl⟩ := r''
        refine call_range_3 c0 ?_ (.inl (PyProof.noPylong_small c1))
        refine PyProof.Rows.args_nil ?_
        have I2 : Inv X pins σ H1 { s1 with heap := s1.heap.push { cls := .type "range", data := .fields #[.int i t, .int j t', .int k t''] } } := I1.kept (t' := s1.toks) fun b o e => Heap.get?_push_of_some _ e
        exact call_len_range (IsRange.new ..) c3 (by omega) ⟨.int n, H1, I2.tok _, ⟨_, rfl⟩, q⟩
theorem cd_lenRng3 {K : PySem.W.Frag} {i j c : Int} {n : Nat} (h : RgC i j c n) (hn : (n : Int) < 2 ^ 62) : CbD K rLenRng3 [.int i, .int j, .int c] (· = .int n) := fun G H vs Q e r k => by
  cases r with
  | cons ra rr =>
    cases rr with
    | cons rb rr =>
      cases rr with
      | cons rc rr =>
        cases rr
        cases ra
        cases rb
        cases rc
        exact ⟨i, j, c, n, rfl, h, hn, ret1 e (.int _) k⟩

/-! ### zip of three, each a list or a tuple -/
def ItAt (b : Bool) (h : Heap) (it a : Addr) (i : Nat) : Prop := cond b (h.IsTupleIter it a i) (h.IsListIter it a i)
def IsSq (b : Bool) (h : Heap) (a : Addr) (its : Array Value) : Prop := cond b (h.IsTuple a its) (h.IsList a its)
def SqB (K : PySem.W.Frag) (b : Bool) (H : Hp) (a : Addr) (xs : List V) : Prop := cond b (SqT K H a xs) (SqL K H a xs)
theorem ItAt.at_ {b : Bool} {h h' : Heap} {it a : Addr} {i : Nat} (x : ItAt b h it a i) (k : ∀ o, h.get? it = some o → h'.get? it = some o) : ItAt b h' it a i := by
  cases b with
  | true => exact Heap.IsTupleIter.at (show h.IsTupleIter it a i from x) k
  | false => exact Heap.IsListIter.at (show h.IsListIter it a i from x) k
theorem ItAt.obj {b : Bool} {h : Heap} {it a : Addr} {i : Nat} (x : ItAt b h it a i) : ∃ o, h.get? it = some o ∧ ∀ v, o.data ≠ .cell v := by
  cases b with
  | true =>
    obtain ⟨o1, e1, _, d1⟩ := (show h.IsTupleIter it a i from x)
    exact ⟨o1, e1, fun v q => by rw [d1] at q; cases q⟩
  | false =>
    obtain ⟨o1, e1, _, d1⟩ := (show h.IsListIter it a i from x)
    exact ⟨o1, e1, fun v q => by rw [d1] at q; cases q⟩
theorem draws_b {P : Program} {w : World} {A : Around} (hh : A.handled = none) (b : Bool) (it a : Addr) (hne : a ≠ it) (items : Array Value) :
    Draws P w A it [it, a] items.size (fun i v => items[i]? = some v) (fun i h => ItAt b h it a i ∧ IsSq b h a items) := by
  cases b with
  | true => exact Draws.tuple hh it a hne items
  | false => exact Draws.list hh it a hne items
def itObj (b : Bool) (a : Addr) : Obj := cond b { cls := .type "tuple_iterator", data := .fields #[.ref a, .int 0 0] } { cls := .type "list_iterator", data := .fields #[.ref a, .int 0 0] }
theorem begins_b (b : Bool) (a : Addr) (items : Array Value) : Begins (.ref a) (itObj b a) fun h => IsSq b h a items := by
  cases b with
  | true => exact begins_tuple a items
  | false => exact begins_list a items
theorem ItAt.new {b : Bool} {h : Heap} {it a : Addr} (e : h.get? it = some (itObj b a)) : ItAt b h it a 0 := by
  cases b with
  | true => exact ⟨_, e, rfl, rfl⟩
  | false => exact ⟨_, e, rfl, rfl⟩
section
variable {X : Cx} {pins : List (Addr × Obj)} {σ : L2.St} {H : Hp} {s : Shared} {a : Addr} {xs ys : List V}
theorem inv_sq (I : Inv X pins σ H s) {b : Bool} (h : SqB X.K b H a xs) : ∃ its : List Value, Vals xs its ∧ IsSq b s.heap a its.toArray ∧ a < s.heap.objs.size := by
  cases b with
  | true =>
    obtain ⟨its, rv, p, _⟩ := I.tuple (show SqT X.K H a xs from h)
    obtain ⟨o1, ho1, _⟩ := id p
    exact ⟨its, rv, show s.heap.IsTuple a its.toArray from p, Heap.lt_size ho1⟩
  | false =>
    obtain ⟨its, rv, p, _⟩ := I.list (show SqL X.K H a xs from h)
    exact ⟨its, rv, p.isList, p.lt⟩
theorem inv_sqi (I : Inv X pins σ H s) {b : Bool} (h : SqB X.K b H a xs) (h' : SqB X.K b H a ys) : xs = ys := by
  cases b with
  | true => exact I.tuple_inj (show SqT X.K H a xs from h) h'
  | false => exact I.list_inj (show SqL X.K H a xs from h) h'
end
def It3 (K : PySem.W.Frag) (b1 b2 b3 : Bool) (a b c : Addr) : It :=
  ⟨fun i H => ∃ (xs ys zs : List V) (x y z : V), SqB K b1 H a xs ∧ SqB K b2 H b ys ∧ SqB K b3 H c zs ∧ xs[i]? = some x ∧ ys[i]? = some y ∧ zs[i]? = some z,
    fun i H v H' => ∃ T x y z, v = .ref T ∧ H T = none ∧ H' = upd H T (.tup [x, y, z]) ∧ (∀ xs, SqB K b1 H a xs → xs[i]? = some x) ∧ (∀ ys, SqB K b2 H b ys → ys[i]? = some y) ∧ ∀ zs, SqB K b3 H c zs → zs[i]? = some z,
    fun i H => ∃ xs ys zs : List V, SqB K b1 H a xs ∧ SqB K b2 H b ys ∧ SqB K b3 H c zs ∧ i ≤ xs.length ∧ i ≤ ys.length ∧ i ≤ zs.length ∧ (i = xs.length ∨ i = ys.length ∨ i = zs.length)⟩
theorem turn_zip3 {P : Program} {w : World} {K : PySem.W.Frag} {elts : List Expr} {kk : Nat} {tpos : Pos} {b1 b2 b3 : Bool} {a b c : Addr} {N : Nat} (ha : a < N) (hb : b < N) (hc' : c < N) :
    Turn P w K (.Tuple elts kk tpos) (It3 K b1 b2 b3 a b c) [N + 5, N + 3, N + 4, N, N + 1, N + 2] (N + 5) (fun i h => IsZip h (N + 5) (N + 3) (N + 4) .none ∧ IsTupOf3 h (N + 3) (.ref N) (.ref (N + 1)) (.ref (N + 2)) ∧ (∃ x y z, IsTupOf3 h (N + 4) x y z) ∧ ItAt b1 h N a i ∧ ItAt b2 h (N + 1) b i ∧ ItAt b3 h (N + 2) c i) := by
  have S := zip_sep3 (N := N) (fp1 := [a]) (fp2 := [b]) (fp3 := [c]) (by simpa using ha) (by simpa using hb) (by simpa using hc')
  refine ⟨by simp, fun i h st d hd => ?_, fun i h h' st k => ?_, ?_, ?_, fun A i s Q E st h => wpAny_pyIter_zip st.1 h⟩
  · obtain ⟨hz, hTI, ⟨x, y, z, hTO⟩, h1, h2, h3⟩ := st
    have e' : d = N + 5 ∨ d = N + 3 ∨ d = N + 4 ∨ d = N ∨ d = N + 1 ∨ d = N + 2 := by simpa using hd
    rcases e' with q | q | q | q | q | q
    · rw [q]; exact ⟨_, hz, fun v q => nomatch q⟩
    · rw [q]; exact ⟨_, hTI, fun v q => nomatch q⟩
    · rw [q]; exact ⟨_, hTO, fun v q => nomatch q⟩
    · rw [q]; exact h1.obj
    · rw [q]; exact h2.obj
    · rw [q]; exact h3.obj
  · obtain ⟨hz, hTI, ⟨x, y, z, hTO⟩, h1, h2, h3⟩ := st
    exact ⟨k _ (by simp) _ hz, k _ (by simp) _ hTI, ⟨x, y, z, k _ (by simp) _ hTO⟩, h1.at_ fun o q => k _ (by simp) o q, h2.at_ fun o q => k _ (by simp) o q, h3.at_ fun o q => k _ (by simp) o q⟩
  · intro X hP hw hK hc i pins s σ H E I hf st hg
    subst hP hw hK
    obtain ⟨hz, hTI, ⟨x0, y0, z0, hTO⟩, h1, h2, h3⟩ := st
    obtain ⟨xs, ys, zs, x, y, z, hqx, hqy, hqz, hx, hy, hz'⟩ := hg
    obtain ⟨its, rv, p, _⟩ := inv_sq I hqx
    obtain ⟨its2, rv2, p2, _⟩ := inv_sq I hqy
    obtain ⟨its3, rv3, p3, _⟩ := inv_sq I hqz
    obtain ⟨u, hu, ru⟩ := rv.get hx
    obtain ⟨u2, hu2, ru2⟩ := rv2.get hy
    obtain ⟨u3, hu3, ru3⟩ := rv3.get hz'
    have hh : X.A.in1.handled = none := I.ok.hd hc
    have D1 := draws_b (P := X.prog) (w := X.w) hh b1 N a (Nat.ne_of_lt ha) its.toArray
    have D2 := draws_b (P := X.prog) (w := X.w) hh b2 (N + 1) b (Nat.ne_of_lt (Nat.lt_succ_of_lt hb)) its2.toArray
    have D3 := draws_b (P := X.prog) (w := X.w) hh b3 (N + 2) c (Nat.ne_of_lt (Nat.lt_succ_of_lt (Nat.lt_succ_of_lt hc'))) its3.toArray
    have hzl : N + 5 < s.heap.objs.size := Heap.lt_size hz
    refine wpAny_pyNext_zipD3_item S D1 D2 D3 hz hTI hTO ⟨h1, p⟩ ⟨h2, p2⟩ ⟨h3, p3⟩ ?_ ?_ ?_ fun x1 x2 x3 h' tk y1 y2 y3 hz1 hTO1 s1 s2 s3 hT hsz hk => ?_
    · simpa using (List.getElem?_eq_some_iff.mp hu).1
    · simpa using (List.getElem?_eq_some_iff.mp hu2).1
    · simpa using (List.getElem?_eq_some_iff.mp hu3).1
    have ex1 : x1 = u := by
      have e : its[i]? = some x1 := by simpa using y1
      rw [hu] at e
      exact (Option.some.inj e).symm
    have ex2 : x2 = u2 := by
      have e : its2[i]? = some x2 := by simpa using y2
      rw [hu2] at e
      exact (Option.some.inj e).symm
    have ex3 : x3 = u3 := by
      have e : its3[i]? = some x3 := by simpa using y3
      rw [hu3] at e
      exact (Option.some.inj e).symm
    subst ex1 ex2 ex3
    refine ⟨_, rfl, wpAny_letOwnedTupleGo_zip (s := { s with heap := h', toks := tk }) hz1 fun h'' z'' sb => ?_⟩
    have hT2 : h''.get? s.heap.objs.size = some { cls := .type "tuple", data := .seq #[x1, x2, x3] } := (sb.2 _ (Nat.ne_of_gt hzl)).trans hT
    have new : ObjOk X.prog X.w (upd H s.heap.objs.size (.tup [x, y, z])) h'' s.heap.objs.size (.tup [x, y, z]) :=
      ⟨by show 3 ≤ sizeLine; exact szl, [x1, x2, x3], .cons ru (.cons ru2 (.cons ru3 .nil)), ⟨_, hT2, rfl, _, rfl⟩⟩
    have I1 : Inv X pins σ (upd H s.heap.objs.size (.tup [x, y, z])) { s with heap := h'', toks := tk } :=
      I.turnedNew (t' := tk) (ch := [N + 5, N + 3, N + 4, N, N + 1, N + 2]) (fun c o hb q => (sb.2 c (fun q' => hb (by simp [q']))).trans (hk c o (fun q' => hb (by simp [q'])) (fun q' => hb (by simp [q'])) (fun q' => hb (by simp [q'])) (fun q' => hb (by simp [q'])) (fun q' => hb (by simp [q'])) q)) hf (Nat.le_refl _) new
    have ne : ∀ {d : Addr}, d ≠ N + 5 → ∀ o, h'.get? d = some o → h''.get? d = some o := fun hd o q => (sb.2 _ hd).trans q
    refine ⟨.ref s.heap.objs.size, _, I1, rfl, ⟨_, x, y, z, rfl, I.hok.fresh (Nat.le_refl _), rfl, fun l hl => by rw [inv_sqi I hl hqx]; exact hx, fun l hl => by rw [inv_sqi I hl hqy]; exact hy, fun l hl => by rw [inv_sqi I hl hqz]; exact hz'⟩, ⟨z'', ?_, ⟨x1, x2, x3, ?_⟩, ?_, ?_, ?_⟩, fun c hcm => ?_⟩
    · exact ne S.TIz _ (hk _ _ S.TIz S.TITO S.TIi1 S.TIi2 S.TIi3 hTI)
    · exact ne S.TOz _ hTO1
    · exact s1.1.at_ (ne S.zi1.symm)
    · exact s2.1.at_ (ne S.zi2.symm)
    · exact s3.1.at_ (ne S.zi3.symm)
    · have hlt : c < s.heap.objs.size := by
        have e' : c = N + 5 ∨ c = N + 3 ∨ c = N + 4 ∨ c = N ∨ c = N + 1 ∨ c = N + 2 := by simpa using hcm
        have hzl' : (N + 5 : Nat) < s.heap.objs.size := hzl
        rcases e' with q | q | q | q | q | q <;> rw [q] <;> first | exact hzl' | (show (_ : Nat) < s.heap.objs.size; omega)
      rw [upd_ne (Nat.ne_of_lt hlt)]
      exact (hf c hcm).1
  · intro X hP hw hK hc i pins s σ H E I hf st hg
    subst hP hw hK
    obtain ⟨hz, hTI, ⟨x0, y0, z0, hTO⟩, h1, h2, h3⟩ := st
    obtain ⟨xs, ys, zs, hqx, hqy, hqz, l1, l2, l3, hend⟩ := hg
    obtain ⟨its, rv, p, _⟩ := inv_sq I hqx
    obtain ⟨its2, rv2, p2, _⟩ := inv_sq I hqy
    obtain ⟨its3, rv3, p3, _⟩ := inv_sq I hqz
    have hh : X.A.in1.handled = none := I.ok.hd hc
    have D1 := draws_b (P := X.prog) (w := X.w) hh b1 N a (Nat.ne_of_lt ha) its.toArray
    have D2 := draws_b (P := X.prog) (w := X.w) hh b2 (N + 1) b (Nat.ne_of_lt (Nat.lt_succ_of_lt hb)) its2.toArray
    have D3 := draws_b (P := X.prog) (w := X.w) hh b3 (N + 2) c (Nat.ne_of_lt (Nat.lt_succ_of_lt (Nat.lt_succ_of_lt hc'))) its3.toArray
    have e1 := rv.length
    have e2 := rv2.length
    have e3 := rv3.length
    refine wpAny_pyNext_zipD3_end S D1 D2 D3 hz hTI hTO ⟨h1, p⟩ ⟨h2, p2⟩ ⟨h3, p3⟩ ?_ ?_ ?_ ?_ fun h' tk hk => ⟨rfl, I.turnedL (t' := tk) (ch := [N + 5, N + 3, N + 4, N, N + 1, N + 2]) (fun c o hb q =>
      hk c o (fun q' => hb (by simp [q'])) (fun q' => hb (by simp [q'])) (fun q' => hb (by simp [q'])) (fun q' => hb (by simp [q'])) (fun q' => hb (by simp [q'])) q) hf⟩
    · simp only [List.size_toArray]; omega
    · simp only [List.size_toArray]; omega
    · simp only [List.size_toArray]; omega
    · simp only [List.size_toArray]; omega
def iZip3 (K : PySem.W.Frag) (ta : TA) : TI := fun σ H R => ta σ H fun vs H1 => ∃ b1 b2 b3 a b c xs ys zs, vs = [.ref a, .ref b, .ref c] ∧ SqB K b1 H1 a xs ∧ SqB K b2 H1 b ys ∧ SqB K b3 H1 c zs ∧ R (It3 K b1 b2 b3 a b c) H1
theorem pi_zip3 {X : Cx} {e e2 e3 : Expr} {ta : TA} {p pos tpos : Pos} {elts : List Expr} {kk : Nat} (hg : Gl X "zip") (hm : X.mg "zip" = none) (ha : PA X [e, e2, e3] ta)
    (hs : starEach [e, e2, e3] X.env = (false, eval e X.env) :: starEach [e2, e3] X.env := by rfl) (hpl : (backTo pos (starEach [e2, e3] X.env)).any (·.1) = false := by rfl) :
    PI X (.Tuple elts kk tpos) (.Call (.Name "zip" p) [e, e2, e3] [] pos) (iZip3 X.K ta) := by
  refine ⟨fun pins s σ H R I h => ?_⟩
  refine Call_ (ld_blt I hg hm PyProof.Rows.boot_zip (PyProof.Rows.callWith_type1 (thn (ha.run pos pins s σ H _ I h) fun us s1 ⟨vs, H1, I1, r1, q1⟩ => ?_) hs hpl))
  obtain ⟨b1, b2, b3, a, b, c, xs, ys, zs, ex, hqx, hqy, hqz, q⟩ := q1
  subst ex
  cases r1 with
  | cons r rr =>
    cases rr with
    | cons r' rr =>
      cases rr with
      | cons r'' rr =>
        cases rr
        cases r
        cases r'
        cases r''
        obtain ⟨its, rv, p1, la⟩ := inv_sq I1 hqx
        obtain ⟨its2, rv2, p2, lb⟩ := inv_sq I1 hqy
        obtain ⟨its3, rv3, p3, lc⟩ := inv_sq I1 hqz
        refine zip_begins3 (begins_b b1 a its.toArray) (begins_b b2 b its2.toArray) (begins_b b3 c its3.toArray) p1 p2 p3 fun h' hz hTI hTO g1 g2 g3 hsz hk => wpAny_pyIter_zip hz ?_
        have I2 : Inv X pins σ H1 { s1 with heap := h' } := I1.kept (t' := s1.toks) hk
        refine ⟨s1.heap.objs.size + 5, _, _, _, H1, rfl, I2, turn_zip3 la lb lc, ⟨hz, hTI, ⟨_, _, _, hTO⟩, .new g1, .new g2, .new g3⟩, fun d hd => ?_, q⟩
        have hle : s1.heap.objs.size ≤ d := by
          have e' : d = s1.heap.objs.size + 5 ∨ d = s1.heap.objs.size + 3 ∨ d = s1.heap.objs.size + 4 ∨ d = s1.heap.objs.size ∨ d = s1.heap.objs.size + 1 ∨ d = s1.heap.objs.size + 2 := by simpa using hd
          rcases e' with q | q | q | q | q | q <;> rw [q] <;> first | exact Nat.le_refl _ | exact Nat.le_add_right _ _
        exact I1.fpOk hle (I1.hok.fresh hle)
section
variable {K : PySem.W.Frag} {E : L2.St → XK} {Δ : En} {X : Addr → Prop} {G : Hp}
/-- the items of a list or a tuple -/
def D.items : D → Option (List D)
  | .lst xs => some xs
  | .tup xs => some xs
  | _ => none
theorem Rp.sq {v : V} {d : D} {ds : List D} (r : Rp K G v d) (h : d.items = some ds) : ∃ b a xs, v = .ref a ∧ (∀ {H}, Exx G H → SqB K b H a xs) ∧ RpL K G xs ds := by
  cases r with
  | lst h1 h2 => cases h; exact ⟨false, _, _, rfl, fun e => .inl (.inl (e.l h1)), h2⟩
  | tup h1 h2 => cases h; exact ⟨true, _, _, rfl, fun e => st_ex e h1, h2⟩
  | non => cases h
  | bl b => cases h
  | int i => cases h
  | str x => cases h
  | obj _ _ => cases h
def zip3D : List D → List D → List D → List D
  | a :: as, b :: bs, c :: cs => .tup [a, b, c] :: zip3D as bs cs
  | _, _, _ => []
theorem zip3D_len : ∀ as bs cs : List D, (zip3D as bs cs).length = min as.length (min bs.length cs.length)
  | [], _, _ => by simp [zip3D]
  | _ :: _, [], _ => by simp [zip3D]
  | _ :: _, _ :: _, [] => by simp [zip3D]
  | _ :: as, _ :: bs, _ :: cs => by
    simp only [zip3D, List.length_cons]
    rw [zip3D_len as bs cs]
    omega
theorem zip3D_get : ∀ {as bs cs : List D} {i : Nat} {a b c : D}, as[i]? = some a → bs[i]? = some b → cs[i]? = some c → (zip3D as bs cs)[i]? = some (.tup [a, b, c])
  | [], _, _, i, _, _, _, h, _, _ => by simp at h
  | _ :: _, [], _, i, _, _, _, _, h, _ => by simp at h
  | _ :: _, _ :: _, [], i, _, _, _, _, _, h => by simp at h
  | _ :: as, _ :: bs, _ :: cs, 0, _, _, _, h1, h2, h3 => by
    simp at h1 h2 h3
    subst h1 h2 h3
    rfl
  | _ :: as, _ :: bs, _ :: cs, i + 1, _, _, _, h1, h2, h3 => by
    simp only [List.getElem?_cons_succ, zip3D] at h1 h2 h3 ⊢
    exact zip3D_get h1 h2 h3
theorem zip3D_of {as bs cs : List D} {i : Nat} {e : D} (h : (zip3D as bs cs)[i]? = some e) : ∃ a b c, as[i]? = some a ∧ bs[i]? = some b ∧ cs[i]? = some c ∧ e = .tup [a, b, c] := by
  have h1 := (List.getElem?_eq_some_iff.mp h).1
  rw [zip3D_len] at h1
  have ha : as[i]? = some as[i] := List.getElem?_eq_getElem (by omega)
  have hb : bs[i]? = some bs[i] := List.getElem?_eq_getElem (by omega)
  have hc : cs[i]? = some cs[i] := List.getElem?_eq_getElem (by omega)
  refine ⟨_, _, _, ha, hb, hc, ?_⟩
  rw [zip3D_get ha hb hc] at h
  exact (Option.some.inj h).symm
theorem ew_zip3 {ta : TA} {da db dc : D} {as bs cs : List D} (h : Ea K E ta Δ (· = [da, db, dc]) X) (ha : da.items = some as) (hb : db.items = some bs) (hc : dc.items = some cs) : Ew K E (iZip3 K ta) Δ (· = zip3D as bs cs) X := fun q G0 H0 G H σ Rj s k kx =>
  h q G0 H0 G H σ _ s (fun vs ds G1 H1 g1 r1 p1 => by
    subst p1
    cases r1 with
    | cons ra rr =>
      cases rr with
      | cons rb rr =>
        cases rr with
        | cons rc rr =>
          cases rr
          obtain ⟨b1, a, xs, rfl, qa, la⟩ := ra.sq ha
          obtain ⟨b2, b, ys, rfl, qb, lb⟩ := rb.sq hb
          obtain ⟨b3, c, zs, rfl, qc, lc⟩ := rc.sq hc
          refine ⟨b1, b2, b3, a, b, c, xs, ys, zs, rfl, qa g1.sub, qb g1.sub, qc g1.sub, k (It3 K b1 b2 b3 a b c) (zip3D as bs cs) G1 H1 g1 (fun G3 H3 e2 e3 => ?_) rfl⟩
          have q1 := qa (e2.trans e3)
          have q2 := qb (e2.trans e3)
          have q3 := qc (e2.trans e3)
          have l1 := la.length
          have l2 := lb.length
          have l3 := lc.length
          rw [zip3D_len]
          refine ⟨fun i hi => ⟨⟨xs, ys, zs, xs[i]'(by omega), ys[i]'(by omega), zs[i]'(by omega), q1, q2, q3, by simp [show i < xs.length by omega], by simp [show i < ys.length by omega], by simp [show i < zs.length by omega]⟩, fun x H4 y => ?_⟩, ⟨xs, ys, zs, q1, q2, q3, by omega, by omega, by omega, by omega⟩⟩
          obtain ⟨T, z1, z2, z3, rfl, hT, rfl, y1, y2, y3⟩ := y
          obtain ⟨d1, hd1, rd1⟩ := la.getV (y1 xs q1)
          obtain ⟨d2, hd2, rd2⟩ := lb.getV (y2 ys q2)
          obtain ⟨d3, hd3, rd3⟩ := lc.getV (y3 zs q3)
          have g := Gr.new (o := .tup [z1, z2, z3]) e3 hT
          have e' := e2.trans g.ex
          exact ⟨_, _, g, zip3D_get hd1 hd2 hd3, .tup (.inl (.inl upd_same)) (.cons (rd1.ex e') (.cons (rd2.ex e') (.cons (rd3.ex e') .nil)))⟩) kx

/-! ### chains, reversals -/
theorem ev_chain {r r' : R2} {ta tb tc : TE} {x y z : D} {b : Bool} {R : D → Prop} (ha : Ev K E ta Δ (· = x) X) (hb : Ev K E tb Δ (· = y) X) (ho : OpD K r x y (· = .bl b)) (hc : b = true → Ev K E tc Δ (· = z) X) (ho' : b = true → OpD K r' y z R) (hf : b = false → R (.bl false)) :
    Ev K E (tChain r r' ta tb tc) Δ R X := fun q G0 H0 G H σ Q s k kx =>
  ha q G0 H0 G H σ _ s (fun v d1 G1 H1 g1 r1 p1 => hb q G0 H0 G1 H1 σ _ (s.go g1) (fun u d2 G2 H2 g2 r2 p2 => by
    subst p1; subst p2
    refine ho G2 H2 v u _ g2.sub (r1.ex g2.ex) r2 fun w d3 G3 H3 g3 r3 p3 => ?_
    subst p3
    cases r3
    have g123 := s.tr (s.tr g1 g2) g3.any
    refine ⟨b, rfl, ?_⟩
    cases b with
    | false => exact iteF (k _ _ G3 H3 g123 (.bl false) (hf rfl))
    | true =>
      refine iteT (hc rfl q G0 H0 G3 H3 σ _ (s.go g123) (fun w2 d4 G4 H4 g4 r4 p4 => ?_) fun C G' H' g x => kx C G' H' (s.tr g123 g) x)
      subst p4
      exact ho' rfl G4 H4 u w2 Q g4.sub (r2.ex (g3.ex.trans g4.ex)) r4 fun u5 d5 G5 H5 g5 r5 p5 => k u5 d5 G5 H5 (s.tr (s.tr g123 g4) g5.any) r5 p5) fun C G' H' g x => kx C G' H' (s.tr g1 g) x) kx
theorem ev1_revL {te : TE} {ds : List D} (h : Ev K E te Δ (· = .lst ds) X) : Ev K E (tRevL K te) Δ (· = .lst ds.reverse) X := fun q G0 H0 G H σ Q s k kx =>
  h q G0 H0 G H σ _ s (fun v d G1 H1 g1 r1 p1 => by
    subst p1
    obtain ⟨a, xs, rfl, ha, hr⟩ := r1.lst_inv
    refine ⟨a, xs, rfl, .inl (.inl (g1.sub.l ha)), fun p hp => ?_⟩
    have g := Gr.new (o := .lst xs.reverse) g1.sub hp
    exact k _ _ _ _ (s.tr g1 g.any) (.lst upd_same (hr.reverse.ex g.ex)) rfl) kx
end
end Ts


/-! What the laws share: the dice, the rounds, what is told of a fault, the law's own frame. -/
namespace Ts
open PySem PySem.Spec PyProof.Rows L2

section
variable {K : PySem.W.Frag} {E : L2.St → XK} {W : WX} {Δ : En} {T : Tb} {te ta tb : TE} {X : Addr → Prop} {post : Out → Prop} {R : D → Prop}
abbrev IntD : D → Prop := fun d => ∃ z : Int, d = .int z
theorem OpD.imp {r : R2} {x y : D} {R R' : D → Prop} (h : OpD K r x y R) (hr : ∀ d, R d → R' d) : OpD K r x y R' := fun G H v w Q e r1 r2 k => h G H v w Q e r1 r2 fun u d G' H' g rd p => k u d G' H' g rd (hr d p)
theorem CbD.imp {r : List V → Hp → VK → Prop} {xs : List D} {R R' : D → Prop} (h : CbD K r xs R) (hr : ∀ d, R d → R' d) : CbD K r xs R' := fun G H vs Q e r1 k => h G H vs Q e r1 fun u d G' H' g rd p => k u d G' H' g rd (hr d p)
theorem ev_ix_dice {i : Nat} {j : Int} (hi : Δ[i]? = some (Sl.dice T)) (hj : j = 0 ∨ j = 1 ∨ j = 2) : Ev K E (tOp (rIx K) (tVar i) (tC (.int j))) Δ IntD X := fun q G0 H0 G H σ Q s k kx => by
  obtain ⟨a, rfl, ha⟩ := s.rs.dice i T hi
  obtain ⟨⟨x, y, z, hd⟩, _⟩ := s.dq a T rfl
  have : ∃ u : Int, atI [V.int x, .int y, .int z] j = some (.int u) := by
    rcases hj with rfl | rfl | rfl
    · exact ⟨x, rfl⟩
    · exact ⟨y, rfl⟩
    · exact ⟨z, rfl⟩
  obtain ⟨u, hu⟩ := this
  exact ⟨_, ha, .inl ⟨a, _, j, .int u, rfl, rfl, .inl (.inl hd), hu, k _ _ G H s.rf (.int u) ⟨u, rfl⟩⟩⟩
theorem xs_setD {i : Nat} {j : Int} (hi : Δ[i]? = some (Sl.dice T)) (hj : j = 0 ∨ j = 1 ∨ j = 2) (h : Ev K (WE W) te Δ IntD X) (hx : ∀ C, X C → post (.ex C Δ)) (k : post (.nx Δ)) : Xs K W (tAsg te (gSub (tVar i) (tC (.int j)) rSetL)) Δ post := fun q G0 H0 G H σ Te s k1 k2 k3 k4 k5 =>
  h q G0 H0 G H σ _ s (fun v d G1 H1 g1 r1 p1 => by
    obtain ⟨w, rfl⟩ := p1
    cases r1
    have s1 := s.go g1
    obtain ⟨a, e, ha⟩ := s1.rs.dice i T hi
    subst e
    obtain ⟨n1, ⟨x, y, z, hd⟩, tb⟩ := s1.rs.gq a T rfl
    have key : ∃ (jn : Nat) (x' y' z' : Int), ixN 3 j = some jn ∧ ([V.int x, .int y, .int z]).set jn (.int w) = [.int x', .int y', .int z'] := by
      rcases hj with rfl | rfl | rfl
      · exact ⟨0, w, y, z, rfl, rfl⟩
      · exact ⟨1, x, w, z, rfl, rfl⟩
      · exact ⟨2, x, y, w, rfl, rfl⟩
    obtain ⟨jn, x', y', z', e1, e2⟩ := key
    refine ⟨.ref a, ha, a, _, j, jn, rfl, rfl, hd, e1, ?_⟩
    rw [e2]
    have g : Gr (some (a, T)) G1 H1 G1 (upd H1 a (.lst [.int x', .int y', .int z'])) := by
      refine ⟨Exx.refl _, fun _ _ e => .inl e, fun b o e nt => ?_, fun b o c e nt => ?_, fun c => (nomatch c), fun b T' c t => ?_⟩
      · have : b ≠ a := fun z => by
          rw [z] at e
          obtain ⟨ps, h⟩ := n1 _ e
          exact nt ps h
        rw [upd_ne this]; exact s1.sub b o e nt
      · have : b ≠ a := fun z => by
          rw [z] at c
          exact c T rfl
        rw [upd_ne this]; exact e
      · cases c
        exact ⟨⟨x', y', z', upd_same⟩, Tbd.chg hd _ t.2⟩
    exact k1 σ Δ G1 _ g1.ex (s1.go g) k) fun C G1 H1 g x => k5 C σ Δ G1 H1 g.ex (s.go g) (hx C x)
theorem ev_intc (h : Ev K E te Δ IntD X) : Ev K E (tCB rInt1 (tCons te tNil)) Δ IntD X :=
  ev_cb (Rs := fun ds => ∃ z : Int, ds = [.int z]) (ea_cons h (fun _ _ => ea_nil) fun d ds ⟨z, e1⟩ e2 => ⟨z, by rw [e1, e2]⟩) fun ds ⟨z, e⟩ => by subst e; exact cd_intI.imp fun d e => ⟨z, e⟩
theorem ev_iop {r : R2} {n : Int} (ha : Ev K E ta Δ IntD X) (hb : Ev K E tb Δ (· = .int n) X) (ho : ∀ i : Int, OpD K r (.int i) (.int n) R) : Ev K E (tOp r ta tb) Δ R X := ev_op ha hb fun x y ⟨z, e1⟩ e2 => by subst e1; subst e2; exact ho z
theorem et_iop {r : R2} {n : Int} (ha : Ev K E ta Δ IntD X) (hb : Ev K E tb Δ (· = .int n) X) (ho : ∀ i : Int, ∃ b, OpD K r (.int i) (.int n) (· = .bl b)) : Et K E (tTest (tOp r ta tb)) Δ (fun _ => True) X :=
  et_val (ev_iop ha hb fun i => by
    obtain ⟨b, h⟩ := ho i
    exact h.imp fun d e => ⟨b, e, trivial⟩)
/-! ### _law_roll -/
def t_roll (K : PySem.W.Frag) (W : WX) : TS :=
  (tSeq (tIfS (tOr (tTest (tOp (rEqG K) (tOp (rIx K) (tVar 0) (tC (.int 2))) (tC (.int 2)))) (tAnd (tTest (tOp (rEqG K) (tOp (rIx K) (tVar 0) (tC (.int 2))) (tC (.int 1)))) (tTest (tOp rGtG (tOp (rIx K) (tVar 0) (tC (.int 0))) (tC (.int 0)))))) (tSeq (tAsg (tOp rModG (tCB rInt1 (tCons (tOp (rIx K) (tVar 0) (tC (.int 0))) tNil)) (tVar 1)) (gName 2))
  (tSeq (tAsg (tOp rDivG (tOp (rIx K) (tVar 0) (tC (.int 0))) (tVar 1)) (gSub (tVar 0) (tC (.int 0)) rSetL))
  (tRet (tVar 2)))) tNext)
  (tSeq (tAsg (tC (.int 0)) (gSub (tVar 0) (tC (.int 2)) rSetL))
  (tSeq (tAsg (tOp rModG (tCB rInt1 (tCons (tOp (rAddG K) (tOp (rAddG K) (tOp rMulG (tOp (rIx K) (tVar 0) (tC (.int 0))) (tC (.int 48271))) (tOp rMulG (tOp (rIx K) (tVar 0) (tC (.int 1))) (tC (.int 69621)))) (tC (.int 11))) tNil)) (tC (.int 2147483647))) (gSub (tVar 0) (tC (.int 0)) rSetL))
  (tSeq (tAsg (tOp (rAddG K) (tOp (rIx K) (tVar 0) (tC (.int 1))) (tC (.int 1))) (gSub (tVar 0) (tC (.int 1)) rSetL))
  (tRet (tOp rModG (tCB rInt1 (tCons (tOp rDivG (tOp (rIx K) (tVar 0) (tC (.int 0))) (tC (.int 7))) tNil)) (tVar 1)))))))
def rollPre : List D → Prop := fun ds => ∃ n : Int, ds = [.int n] ∧ 0 < n ∧ n < 2 ^ 64
def rollPost : List D → Res → Prop := fun ds r => ∃ n i : Int, ds = [.int n] ∧ r = .ret (.int i) ∧ 0 ≤ i ∧ i < n
abbrev spRoll (K : PySem.W.Frag) (T : Tb) : Sp := spQ K T rollPre rollPost
theorem cdivw {i n : Int} (h : 0 < n) (h2 : n < 2 ^ 64) : CDivW i n := wide_div (b := 64) h (by omega) (by decide) (by decide)
theorem roll_xs {ds : List D} (h : rollPre ds) : Xs K W (t_roll K W) (argsQ T ["dice", "many", "found"] ds) (fnP rollPost ds) := by
  obtain ⟨n, rfl, hn, hn2⟩ := h
  have i0 : ∀ {Δ : En} {j : Int}, Δ[0]? = some (Sl.dice T) → (j = 0 ∨ j = 1 ∨ j = 2) → Ev K (WE W) (tOp (rIx K) (tVar 0) (tC (.int j))) Δ IntD (fun _ => False) := fun h1 h2 => ev_ix_dice h1 h2
  refine xs_seq (xs_if (Rt := fun _ => True) (X := fun _ => False) ?_ (fun _ z => z.elim) (fun _ => ?_) fun _ => xs_next ?_)
  · refine et_or (R1 := fun _ => True) (R2 := fun _ => True) (et_iop (i0 rfl (by simp)) ev_int fun i => ⟨_, od_eqI⟩) (fun _ => ?_) (fun _ _ _ => trivial) fun _ => trivial
    exact et_and (R1 := fun _ => True) (R2 := fun _ => True) (et_iop (i0 rfl (by simp)) ev_int fun i => ⟨_, od_eqI⟩) (fun _ => et_iop (i0 rfl (by simp)) ev_int fun i => ⟨_, od_gt⟩) (fun _ _ _ => trivial) fun _ => trivial
  · refine xs_seq (xs_asg (R := fun d => ∃ i : Int, d = .int i ∧ 0 ≤ i ∧ i < n) (X := fun _ => False) ?_ (fun _ z => z.elim) fun d hd => ?_)
    · exact ev_iop (ev_intc (i0 rfl (by simp))) (ev_var rfl) fun i => (od_mod hn).imp fun d e => ⟨_, e, Int.emod_nonneg _ (by omega), Int.emod_lt_of_pos _ hn⟩
    · obtain ⟨i, rfl, h1, h2⟩ := hd
      refine xs_seq (xs_setD (T := T) (X := fun _ => False) rfl (by simp) ?_ (fun _ z => z.elim) ?_)
      · exact ev_iop (i0 rfl (by simp)) (ev_var rfl) fun i => (od_div (cdivw hn hn2)).imp fun d e => ⟨_, e⟩
      · exact xs1_ret (d := .int i) (ev_var rfl) ⟨n, i, rfl, rfl, h1, h2⟩
  · refine xs_seq (xs_setD (T := T) (X := fun _ => False) rfl (by simp) (ev_int.imp fun d e => ⟨_, e⟩) (fun _ z => z.elim) ?_)
    refine xs_seq (xs_setD (T := T) (X := fun _ => False) rfl (by simp) ?_ (fun _ z => z.elim) ?_)
    · refine ev_iop (ev_intc (ev_iop (ev_op (Ra := IntD) (Rb := IntD) (ev_iop (i0 rfl (by simp)) ev_int fun i => (od_mul (.inr ⟨by decide, by decide⟩)).imp fun d e => ⟨_, e⟩) (ev_iop (i0 rfl (by simp)) ev_int fun i => (od_mul (.inr ⟨by decide, by decide⟩)).imp fun d e => ⟨_, e⟩) fun x y ⟨i, e1⟩ ⟨j, e2⟩ => ?_) ev_int fun i => od_add.imp fun d e => ⟨_, e⟩)) ev_int fun i => (od_mod (by decide)).imp fun d e => ⟨_, e⟩
      subst e1; subst e2
      exact od_add.imp fun d e => ⟨_, e⟩
    · refine xs_seq (xs_setD (T := T) (X := fun _ => False) rfl (by simp) ?_ (fun _ z => z.elim) ?_)
      · exact ev_iop (i0 rfl (by simp)) ev_int fun i => od_add.imp fun d e => ⟨_, e⟩
      · refine xs_ret (R := fun d => ∃ i : Int, d = .int i ∧ 0 ≤ i ∧ i < n) (X := fun _ => False) ?_ (fun _ z => z.elim) fun d hd => ?_
        · exact ev_iop (ev_intc (ev_iop (i0 rfl (by simp)) ev_int fun i => (od_div (cdivw (by decide) (by decide))).imp fun d e => ⟨_, e⟩)) (ev_var rfl) fun i => (od_mod hn).imp fun d e => ⟨_, e, Int.emod_nonneg _ (by omega), Int.emod_lt_of_pos _ hn⟩
        · obtain ⟨i, rfl, h1, h2⟩ := hd
          exact ⟨n, i, rfl, rfl, h1, h2⟩
/-! ### _law_dice -/
def t_dice (K : PySem.W.Frag) (W : WX) : TS :=
  (tSeq (tIfS (tTest (tChain (rLtG K) (rLtG K) (tOp rSubG (tC (.int 0)) (tC (.int 10))) (tVar 0) (tC (.int 10)))) (tRet (tLst (tCons (tCB rAbs (tCons (tVar 0) tNil)) (tCons (tC (.int 0)) (tCons (tC (.int 2)) tNil))))) tNext)
  (tRet (tLst (tCons (tVar 0) (tCons (tOp (rAddG K) (tC (.int 1)) (tOp rModG (tCB rInt1 (tCons (tVar 0) tNil)) (tC (.int 1009)))) (tCons (tCB rInt1 (tCons (tOp rGeG (tVar 0) (tOp rPowG (tC (.int 10)) (tC (.int 18)))) tNil)) tNil))))))
def dicePre : List D → Prop := fun ds => ∃ n : Int, ds = [.int n]
def IsDice (d : D) : Prop := ∃ x y z : Int, d = .lst [.int x, .int y, .int z]
def dicePost : List D → Res → Prop := fun ds r => ∃ d, IsDice d ∧ r = .ret d
abbrev spDice (K : PySem.W.Frag) : Sp := spD K dicePre dicePost
theorem dice_xs {ds : List D} (h : dicePre ds) : Xs K W (t_dice K W) (argsE ["cell"] ds) (fnP dicePost ds) := by
  obtain ⟨c, rfl⟩ := h
  refine xs_seq (xs_if (Rt := fun _ => True) (X := fun _ => False) (et_val ?_) (fun _ z => z.elim) (fun _ => ?_) fun _ => xs_next ?_)
  · exact ev_chain (ev1_op ev_int ev_int od_sub) (ev_var rfl) od_lt (fun _ => ev_int) (fun _ => od_lt.imp fun d e => ⟨_, e, trivial⟩) fun _ => ⟨_, rfl, trivial⟩
  · exact xs1_ret (ev1_lst (ea1_cons (ev1_cb (ea1_cons (ev_var rfl) ea_nil) cd_abs) (ea1_cons ev_int (ea1_cons ev_int ea_nil)))) ⟨_, ⟨_, _, _, rfl⟩, rfl⟩
  · exact xs1_ret (ev1_lst (ea1_cons (ev_var rfl) (ea1_cons (ev1_op ev_int (ev1_op (ev1_cb (ea1_cons (ev_var rfl) ea_nil) cd_intI) ev_int (od_mod (by decide))) od_add) (ea1_cons (ev1_cb (ea1_cons (ev1_op (ev_var rfl) (ev1_op ev_int ev_int (od_pow ⟨by decide, by decide, by decide⟩)) od_ge) ea_nil) cd_intB) ea_nil)))) ⟨_, ⟨_, _, _, rfl⟩, rfl⟩
/-! ### _law_rounds(script, 1) -/
/-- the state of slots that say nothing -/
theorem sta_no {G H : Hp} {σ : L2.St} (e : Exx G H) : Sta K none G H G H σ (List.replicate σ.length .no) := by
  have no : ∀ {i : Nat} {x : Sl}, (List.replicate σ.length Sl.no)[i]? = some x → x = .no := fun {i x} h => by
    rw [List.getElem?_replicate] at h
    split at h
    · exact (Option.some.inj h).symm
    · cases h
  refine Sta.start ⟨e, by simp, fun a T e => (nomatch e), fun i d h => ?_, fun i bs h => ?_, fun i j bs cs p h => ?_, fun i T h => ?_⟩
  · cases no h
  · cases no h
  · cases no h
  · cases no h
def t_rounds (K : PySem.W.Frag) (W : WX) (sp__law_dice : Sp) : TS :=
  (tSeq (tAsg (tSl (rSlG K) (tVar 0) tNoPart (tPart (tVar 1))) (gName 2))
  (tSeq (tIfS (tTest (tOp (rEqG K) (tVar 2) (tLst tNil))) (tAsg (tLst (tCons (tC (.int 0)) tNil)) (gName 2)) tNext)
  (tRet (tLc (iSeq K (tVar 2)) (gName 3) tYes (tCallS sp__law_dice E00 (tCons (tVar 3) tNil)) [3]))))
def spRounds (K : PySem.W.Frag) : Sp := fun vs H Q E => ∃ (a : Addr) (ns : List Int), vs = [.ref a, .int 1] ∧ SqL K H a (ns.map V.int) ∧ ∀ (l d : Addr) (H' : Hp), (∀ b o, H b = some o → (∀ ps, o ≠ HO.tbl ps) → H' b = some o) → Tbd H H' → H' l = some (.lst [.ref d]) → DiceAt H' d → Q (.ref l) H'
theorem rounds_rest {c : Option Int} : Xs K W (tSeq (tIfS (tTest (tOp (rEqG K) (tVar 2) (tLst tNil))) (tAsg (tLst (tCons (tC (.int 0)) tNil)) (gName 2)) tNext)
  (tRet (tLc (iSeq K (tVar 2)) (gName 3) tYes (tCallS (spDice K) E00 (tCons (tVar 3) tNil)) [3]))) [.no, .dat (.int 1), .dat (.lst (c.toList.map D.int)), .no] (fun o => ∃ d, IsDice d ∧ o = .rt (.lst [d])) := by
  have last : ∀ n : Int, Xs K W (tRet (tLc (iSeq K (tVar 2)) (gName 3) tYes (tCallS (spDice K) E00 (tCons (tVar 3) tNil)) [3])) [.no, .dat (.int 1), .dat (.lst [.int n]), .no] (fun o => ∃ d, IsDice d ∧ o = .rt (.lst [d])) := fun n => by
    refine xs_ret (R := fun e => ∃ d, IsDice d ∧ e = .lst [d]) (X := fun _ => False) ?_ (fun _ z => z.elim) fun e ⟨d, hd, he⟩ => ⟨d, hd, by rw [he]⟩
    refine ev_lc (Rw := (· = [.int n])) (ew_inl (ew_list ((ev_var rfl).imp fun d e => ⟨[.int n], e, rfl⟩))) (fun items i acc => acc.length = i ∧ ∀ d ∈ acc, IsDice d) (fun _ _ => ⟨rfl, by simp⟩) (fun items i d acc ei hi ha => ?_) fun items acc ei ha => ?_
    · subst ei
      have e0 : i = 0 ∧ d = .int n := by
        cases i with
        | zero => simp at hi; exact ⟨rfl, hi.symm⟩
        | succ i => simp at hi
      obtain ⟨rfl, rfl⟩ := e0
      refine ⟨[3], _, by simp, tg_name, et_yes.imp fun b eb => ⟨fun _ => ?_, fun z => by rw [eb] at z; cases z⟩⟩
      refine ev_call (Rs := (· = [.int n])) (ea1_cons (ev_var rfl) ea_nil) (fun ds e => ⟨n, e⟩) (fun ds e _ ⟨e', he, z⟩ => ?_) fun ds C _ ⟨_, _, z⟩ => by cases z
      cases z
      rw [ha.1]
      refine ⟨szlt (by decide), by rw [List.length_append, ha.1]; rfl, fun x hx => ?_⟩
      rcases List.mem_append.mp hx with z | z
      · exact ha.2 x z
      · rw [List.mem_singleton.mp z]; exact he
    · subst ei
      match acc, ha with
      | [d], ⟨_, h⟩ => exact ⟨d, h d (by simp), rfl⟩
  refine xs_seq ?_
  cases c with
  | none =>
    refine xs1_if (b := true) (et1_val (ev1_op (ev_var rfl) (ev1_lst ea_nil) (od_eqSelf rfl rfl))) (fun _ => ?_) fun z => by cases z
    exact xs1_asg (d := .lst [.int 0]) (ev1_lst (ea1_cons ev_int ea_nil)) (last 0)
  | some n =>
    refine xs_if (Rt := fun _ => True) (X := fun _ => False) (et_val (ev_op (Ra := (· = .lst [.int n])) (Rb := (· = .lst [])) (ev_var rfl) (ev1_lst ea_nil) fun x y e1 e2 => ?_)) (fun _ z => z.elim) (fun _ => ?_) fun _ => ?_
    · subst e1; subst e2
      exact (od_eqD rfl rfl).imp fun d e => ⟨_, e, trivial⟩
    · exact xs1_asg (d := .lst [.int 0]) (ev1_lst (ea1_cons ev_int ea_nil)) (last 0)
    · exact xs_next (last n)
theorem rounds_pure {H : Hp} {vs : List V} {Q : VK} {E : XK} (h : spRounds K vs H Q E) : t_rounds K W (spDice K) { nx := fun _ H' => Q .non H', rt := Q } (L2.start ["script", "most", "cells", "cell"] vs) H := by
  obtain ⟨a, ns, rfl, hS, k⟩ := h
  refine ⟨_, rfl, ⟨_, rfl, _, rfl, .inl ⟨a, _, rfl, hS, fun p hp => ?_⟩⟩⟩
  let G1 : Hp := upd (fun _ => none) p (.lst (cutV (ns.map V.int) none (some 1)))
  let H1 : Hp := upd H p (.lst (cutV (ns.map V.int) none (some 1)))
  have e1 : Exx G1 H1 := fun b o e nt => by
    by_cases c : b = p
    · rw [c] at e ⊢
      have e' := e
      show upd H p _ p = _
      rw [upd_same]
      rw [show G1 p = some _ from upd_same] at e'
      exact e'
    · rw [show G1 b = none from upd_ne c] at e
      cases e
  have s0 : Sta K none G1 H1 G1 H1 [some (V.ref a), some (V.int 1), none, none] (List.replicate 4 .no) := sta_no e1
  have r1 : RpL K G1 (cutV (ns.map V.int) none (some 1)) (cutD (ns.map D.int) none (some 1)) := (RpL.ints ns).cut none (some 1)
  have ec : cutD (ns.map D.int) none (some 1) = (ns.head?.toList.map D.int) := by
    rw [show (some (1 : Int)) = some ((1 : Nat) : Int) from rfl, cutD_to]
    cases ns <;> rfl
  have s1 := (s0.set (i := 1) (v := .int 1) (.int 1)).set (i := 2) (v := .ref p) (d := .lst (ns.head?.toList.map D.int)) (by rw [← ec]; exact .lst upd_same r1)
  refine rounds_rest (W := W) none G1 H1 G1 H1 _ _ s1 (fun _ _ _ _ _ _ ⟨_, _, z⟩ => nomatch z) (fun v d G' H' g rv p2 => ?_) (fun _ _ _ _ _ _ ⟨_, _, z⟩ => nomatch z) (fun _ _ _ _ _ _ ⟨_, _, z⟩ => nomatch z) (fun _ _ _ _ _ _ _ ⟨_, _, z⟩ => nomatch z)
  obtain ⟨d', ⟨x, y, z, hd⟩, e⟩ := p2
  cases e
  obtain ⟨l, xs, rfl, hl, hr⟩ := rv.lst_inv
  cases hr with
  | cons ra rr =>
    cases rr
    subst hd
    obtain ⟨dd, ys, rfl, hdd, hr2⟩ := ra.lst_inv
    have ey : ys = [V.int x, .int y, .int z] := by
      have := RpL.ints_inv (ns := [x, y, z]) hr2
      exact this
    subst ey
    refine k l dd H' (fun b o e nt => g.keep b o (by simp) (by show upd H p _ b = _; rw [upd_ne (ne_of_none e hp)]; exact e) nt) (fun T t => g.tk rfl T (Tbd.new hp T t)) (g.sub.l hl) ⟨x, y, z, g.sub.l hdd⟩
end
end Ts


/-! Faults that are told, the law's own def, its frame. -/
namespace Ts
open PySem PySem.Spec PyProof.Rows L2

section
variable {K : PySem.W.Frag} {E : L2.St → XK} {W : WX} {Δ : En} {T : Tb} {te ta tb : TE} {X : Addr → Prop} {post : Out → Prop} {R : D → Prop}
/-- _law_told(lambda: ..) -/
theorem ev_told {i : Nat} {t : XK → TE} {CS : Addr} {ret : Str} {Xb : Addr → Prop} (hi : Δ[i]? = some (Sl.dice T)) (h : ∀ EL, Ev K (fun _ => EL) (t EL) Δ R Xb) (hx : ∀ C, Xb C → PySem.W.exmOne K (.ref C) (.ref CS) = some true) :
    Ev K E (LamX.tLam T (LamX.TTold K CS ret) t) Δ (fun d => R d ∨ ((∃ C, Xb C) ∧ d = .str ret)) X := fun q G0 H0 G H σ Q s k kx => by
  obtain ⟨a, rfl, ha⟩ := s.rs.dice i T hi
  obtain ⟨n1, dq, tb⟩ := s.rs.gq a T rfl
  refine ⟨tb, fun H1 e1 T1 => ?_⟩
  have g : Gr (some (a, T)) G H G H1 := ⟨Exx.refl _, fun _ _ e => .inl e, fun b o e nt => e1 b o (s.sub b o e nt) nt, fun b o _ e nt => e1 b o e nt, fun c => (nomatch c), fun b T' c ⟨⟨x, y, z, d⟩, _⟩ => by
    cases c
    exact ⟨⟨x, y, z, e1 _ _ d (fun _ z => nomatch z)⟩, T1⟩⟩
  exact h _ (some (a, T)) G0 H0 G H1 σ Q (s.go g) (fun v d G' H' g' rv p => k v d G' H' (s.tr g g') rv (.inl p)) fun C G' H' g' x => ⟨true, hx C x, fun _ => k _ _ G' H' (s.tr g g') (.str ret) (.inr ⟨⟨C, x⟩, rfl⟩), fun z => by cases z⟩
theorem emp_sub {H : Hp} : Exx (fun _ => none) H := fun _ _ e _ => nomatch e
/-- .. at the end of a law -/
theorem told_fin {σ : L2.St} {H : Hp} {Q : VK} {t : XK → TE} {CS : Addr} {ret : Str} {Xb : Addr → Prop} (hT : LamX.Tabs T H) (h : ∀ EL, Ev K (fun _ => EL) (t EL) (List.replicate σ.length .no) (fun _ => False) Xb) (hx : ∀ C, Xb C → PySem.W.exmOne K (.ref C) (.ref CS) = some true)
    (k : ∀ H', LamX.Tabs T H' → Q (.str ret) H') : LamX.tLam T (LamX.TTold K CS ret) t σ H Q := by
  refine ⟨hT, fun H1 e1 T1 => ?_⟩
  exact h _ none _ H1 _ H1 σ Q (sta_no emp_sub) (fun _ _ _ _ _ _ z => z.elim) fun C G' H' g' x => ⟨true, hx C x, fun _ => k H' (g'.tk rfl T T1), fun z => by cases z⟩
/-- an expression at the end of a law -/
theorem ev_fin {σ : L2.St} {H : Hp} {Q : VK} {v : V} {d : D} (h : Ev K E te (List.replicate σ.length .no) (· = d) fun _ => False) (hv : d.v = some v) (k : ∀ H', Tbd H H' → Q v H') : te σ H Q :=
  h none _ H _ H σ Q (sta_no emp_sub) (fun u d' G' H' g r e => by
    subst e
    rw [r.sc hv]
    exact k H' (g.tk rfl)) fun _ _ _ _ z => z.elim
theorem dec_str {x y : Str} : decide (V.str x = V.str y) = decide (x = y) := by rw [Bool.eq_iff_iff]; simp
/-- .. == 'Fault' -/
theorem told_eq {σ : L2.St} {H : Hp} {Q : VK} {ret : Str} {tl : TE} (h : ∀ Q' : VK, (∀ H', LamX.Tabs T H' → Q' (.str ret) H') → tl σ H Q') (k : ∀ H', LamX.Tabs T H' → Q (.bl true) H') : tOp (rEqG K) tl (tC (.str ret)) σ H Q :=
  h _ fun H' t => .inl ⟨rfl, by
    rw [decide_eq_true rfl]
    exact k H' t⟩
/-- a and b, both true, at the end of a law -/
theorem and_fin {σ : L2.St} {H : Hp} {Q : VK} (h1 : ∀ Q' : VK, (∀ H', LamX.Tabs T H' → Q' (.bl true) H') → ta σ H Q') (h2 : ∀ H', LamX.Tabs T H' → tb σ H' Q) : tAndV ta tb σ H Q := h1 _ fun H' t => ⟨true, rfl, iteT (h2 H' t)⟩
end

/-! ### the derivation of such a call -/
section
variable {X : Cx}
theorem pe_told {k j : Nat} {c P CS g : Addr} {x e ret : Str} {pg : Arguments} {sg : Scope} {fd : FuncData} {p1 p2 p3 p4 p5 p6 p7 p8 lpos p pos : Pos} {params : Arguments} {body : Expr} {scope : Scope} {t : XK → TE} {T : Tb}
    (F : FunD X.K x x pg [.Try [.Return (some (.Call (.Name "what" p1) [] [] p2)) p3] [.ExceptHandler (some (.Name e p4)) none [.Return (some (.Constant (.str ret) j p5)) p6] p7] [] [] p8] sg [] [] g fd)
    (hm : X.mg x = some (.ref g)) (hb : Binds X.K fd ["what"] []) (Sg : FnScope ["what"] ["what"] sg) (hva : Vis sg "what") (hge : sg.names.lookup e = some .globalImplicit) (hme : X.mg e = some (.ref CS))
    (TB : LamX.TabB X.base X.mg c P) (hcode : X.env.code = .ref c) (hmT : (P, X.env.qual ++ "<lambda>") ∈ T) (hu : ∀ p ∈ T, p.1 = P → p.2 = X.env.qual ++ "<lambda>") (hr : Room (k + 2) X.A) (hg : Gl X x) (L : LamX.LamS X.env.scope scope) (hdef : defaultsOf params X.env = ([], []))
    (hbind : ∀ (q : Str) (cl : List (Str × Addr)) (pm cv ctv : Value), bindArgs (PySem.W.kla_fn "<lambda>" q params body scope cl pm cv ctv) ⟨[], []⟩ = pure [])
    (hbody : ∀ (A : Around) (outer : List Env) (s : Shared) (H : Hp) (E : XK) (f c' : Addr), Room k (A.deeper (LamX.lamEnv X scope s.heap.objs.size f c')) → PE (LamX.lamCx X A outer s H E scope f c') body (t E))
    (hdb : (x == ("__debug__" : Str)) = false := by decide) (hde : (e == ("__debug__" : Str)) = false := by decide) :
    PE X (.Call (.Name x p) [.Lambda params body scope lpos] [] pos) (LamX.tLam T (LamX.TTold X.K CS ret) t) := by
  have kp := F.kp
  obtain ⟨oc, od, dV, kV, doc, pm, an, cdv, ct, osl, rfl, lk, hcd, _, _⟩ := F.ex
  exact LamX.pe_lamcall (Ng := ["what"]) hg hm kp lk hcd hb Sg rfl hva (LamX.told_gives hge hme hde fun _ => rfl) TB hcode hmT hu hr L hdef hbind hbody hdb
end

/-! ### the law's own def -/
section
variable {P : Program} {w : World} {K : PySem.W.Frag} {mg : Str → Option Value} {base : Heap}
/-- a def with a promise over heaps, its code object known -/
theorem fn_H {x qual : Str} {params : Arguments} {body : List Stmt} {scope : Scope} {f : Addr} {fd : FuncData} {N ps : List Str} {k : Nat} {sp : Sp} {t : WX → TS} (F : FunD K x qual params body scope [] [] f fd) (S : FnScope N ps scope) (len : ∀ vs H Q E, sp vs H Q E → vs.length = ps.length)
    (der : ∀ (cdv : Value) (A : Around) (outer : List Env) (s : Shared) (H : Hp) (E : XK), fd.code = cdv → Room k (A.deeper (envOfC qual scope s.heap.objs.size f cdv)) → PSs (cxOf (L2.CX P w) P w K mg base N qual scope f cdv A outer s H E) body (t (wDef E)))
    (h : ∀ (W : WX) vs H Q E, sp vs H Q E → t W { nx := fun _ H' => Q .non H', rt := Q } (L2.start N vs) H) : FnOk P w K mg base (L2.CX P w) (k + 1) f fd ps sp := by
  refine ⟨len, fun A outer s H args us vs Q E hr e0 hb r hsp => ?_⟩
  obtain ⟨oc, od, dV, kV, doc, pm, an, cdv, ct, osl, rfl, lk, hcd, _, _⟩ := F.ex
  exact LamX.run_ofS lk hcd S hr e0 hb r (len vs H Q E hsp) fun hr' => ⟨t (wDef E), der cdv A outer s H E rfl hr', h (wDef E) vs H Q E hsp⟩
theorem code_of {x qual : Str} {params : Arguments} {body : List Stmt} {scope : Scope} {q : Str × Option Str} {fd : FuncData} (F : FunD K x qual params body scope [] [] (He.fAd K q) fd) : fd.code = .ref (He.cT K q).1 := by
  obtain ⟨oc, od, dV, kV, doc, pm, an, cdv, ct, osl, rfl, lk, hcd, _, _⟩ := F.ex
  obtain ⟨c, e⟩ := He.codeIn_ref hcd
  have : He.codeOf K q = c := He.codeOf_eq lk e
  show cdv = .ref (He.codeOf K q)
  rw [this, e]
/-- a def of data, known by its name -/
theorem cal_of {x : Str} {f : Addr} {fd : FuncData} {ps : List Str} {k : Nat} {sp : Sp} (F : FnOk P w K mg base (L2.CX P w) k f fd ps sp) (hm : mg x = some (.ref f)) (kp : PySem.W.keepIn K (.ref f) = true) (b : Binds K fd ps []) : Cal P w K mg base k x sp := ⟨⟨f, fd, ps, F, hm, kp, b⟩⟩
def spLaw (K : PySem.W.Frag) (cs : List Addr) : Sp := fun vs H Q E => ∃ (a : Addr) (ns : List Int), vs = [.ref a] ∧ SqL K H a (ns.map V.int) ∧ (∀ p ∈ cs, H p = some (.tbl #[])) ∧ ∀ H', Q (.bl true) H'
/-- for dice in _law_rounds(script, 1): ..; return .. -/
theorem law_frame {W : WX} {N : List Str} {T : Tb} {cs : List Addr} {tb : TS} {tf : TE} {vs : List V} {H : Hp} {Q : VK} {E : XK} {n : Nat} (h : spLaw K cs vs H Q E) (hT : ∀ p ∈ T, p.1 ∈ cs) (hN : N.length = n + 2)
    (hb : Xs K W tb (Sl.no :: Sl.dice T :: List.replicate n Sl.no) (fun o => match o with
      | .nx _ => True
      | .ct _ => True
      | _ => False))
    (hf : ∀ (σ : L2.St) (H' : Hp), LamX.Tabs T H' → tf σ H' Q) :
    (tSeq (tFor (iSeq K (tCallS (spRounds K) (WE W) (tCons (tVar 0) (tCons (tC (.int 1)) tNil)))) (gName 1) tb) (tRet tf)) { nx := fun _ H' => Q .non H', rt := Q } (L2.start N vs) H := by
  obtain ⟨a, ns, rfl, hS, hcs, k⟩ := h
  have hT0 : LamX.Tabs T H := fun p hp => .nil (hcs _ (hT p hp))
  have hlen : (L2.start N [V.ref a]).length = n + 2 := by simp [L2.start, hN]
  refine .inl ⟨.ref a, start_get rfl, a, ns, rfl, hS, fun l d H1 e1 tk1 hl hd => ⟨l, rfl, ⟨[.ref d], .inl (.inl hl)⟩, ?_⟩⟩
  have hld : ∀ {H' : Hp}, H' l = some (.lst [.ref d]) → DiceAt H' d → l ≠ d := fun h1 ⟨x, y, z, h2⟩ e => by
    rw [e, h2] at h1
    cases h1
  refine ⟨fun i m σ' H' => m = 1 - i ∧ i ≤ 1 ∧ H' l = some (.lst [.ref d]) ∧ DiceAt H' d ∧ LamX.Tabs T H' ∧ (i = 0 → σ'.length = n + 2 ∧ σ'[0]? = some (some (.ref a))), ⟨1, rfl, by decide, hl, hd, tk1 T hT0, fun _ => ⟨hlen, start_get rfl⟩⟩, ?_⟩
  rintro i m σ' H' ⟨rfl, hi, h1, h2, h3, h4⟩
  by_cases hi0 : i = 0
  · subst hi0
    obtain ⟨h5, h6⟩ := h4 rfl
    refine .inr ⟨⟨[.ref d], .ref d, .inl (.inl h1), rfl⟩, fun σ2 H2 => H2 l = some (.lst [.ref d]) ∧ DiceAt H2 d ∧ LamX.Tabs T H2, fun σ2 H2 ⟨a1, a2, a3⟩ => ⟨0, by decide, rfl, Nat.le_refl _, a1, a2, a3, fun z => nomatch z⟩, fun x H2 y => ?_⟩
    obtain ⟨e, y⟩ := y
    subst e
    have ex : V.ref d = x := by
      have := y [.ref d] (.inl (.inl h1))
      simpa using this
    subst ex
    have st : Sta K (some (d, T)) (fun _ => none) H2 (fun _ => none) H2 (σ'.set 1 (some (V.ref d))) (Sl.no :: Sl.dice T :: List.replicate n Sl.no) := by
      have no : ∀ {i : Nat} {x : Sl}, (Sl.no :: Sl.dice T :: List.replicate n Sl.no)[i]? = some x → x = .no ∨ (i = 1 ∧ x = .dice T) := fun {i x} h => by
        match i with
        | 0 => exact .inl (Option.some.inj h).symm
        | 1 => exact .inr ⟨rfl, (Option.some.inj h).symm⟩
        | i + 2 =>
          have h' : (List.replicate n Sl.no)[i]? = some x := by simpa using h
          rw [List.getElem?_replicate] at h'
          split at h'
          · exact .inl (Option.some.inj h').symm
          · cases h'
      refine Sta.start ⟨emp_sub, by simp [h5], fun b T' e => ?_, fun i d' h => ?_, fun i bs h => ?_, fun i j bs cs p h => ?_, fun i T' h => ?_⟩
      · cases e
        exact ⟨fun _ e => (nomatch e), h2, h3⟩
      · rcases no h with z | ⟨_, z⟩ <;> cases z
      · rcases no h with z | ⟨_, z⟩ <;> cases z
      · rcases no h with z | ⟨_, z⟩ <;> cases z
      · rcases no h with z | ⟨z1, z⟩
        · cases z
        · cases z
          subst z1
          exact ⟨d, rfl, List.getElem?_set_self (by omega)⟩
    have fin : ∀ {σ2 : L2.St} {Δ2 : En} {G2 H3 : Hp}, Sta K (some (d, T)) (fun _ => none) H2 G2 H3 σ2 Δ2 → H3 l = some (.lst [.ref d]) ∧ DiceAt H3 d ∧ LamX.Tabs T H3 := fun s => by
      obtain ⟨b1, b2⟩ := s.gr.dq d T rfl ⟨h2, h3⟩
      refine ⟨s.gr.kl (fun T' z => ?_) h1, b1, b2⟩
      have e : (d, T) = (l, T') := Option.some.inj z
      exact hld h1 h2 (congrArg Prod.fst e).symm
    exact hb _ _ _ _ _ _ _ st (fun _ _ _ _ _ s _ => fin s) (fun _ _ _ _ _ _ z => z.elim) (fun _ _ _ _ _ _ z => z.elim) (fun _ _ _ _ _ s _ => fin s) fun _ _ _ _ _ _ _ z => z.elim
  · have e : i = 1 := by omega
    subst e
    exact .inl ⟨⟨[.ref d], .inl (.inl h1), Nat.le_refl _⟩, hf σ' H' h3⟩
end
end Ts


/-! More on data: what == may look at; a, b, c = [], x, y. -/
namespace Ts
open PySem PySem.Spec PyProof.Rows L2

/-! ### data that == may look at, at most n deep -/
def okN : Nat → D → Bool
  | _, .non => true
  | _, .bl _ => true
  | _, .int _ => true
  | _, .str x => PyData.strOk x
  | n + 1, .lst xs => xs.all (okN n)
  | n + 1, .tup xs => xs.all (okN n)
  | _, _ => false
theorem okN_spec : ∀ (n : Nat) (d : D), okN n d = true → d.pure = true ∧ PyData.canLay0 d.py = true ∧ PyData.depth d.py ≤ n
  | n, .non, _ => ⟨rfl, rfl, Nat.zero_le _⟩
  | n, .bl _, _ => ⟨rfl, rfl, Nat.zero_le _⟩
  | n, .int _, _ => ⟨rfl, rfl, Nat.zero_le _⟩
  | n, .str x, h => ⟨rfl, by
    have h' : PyData.strOk x = true := by cases n <;> exact h
    exact h', Nat.zero_le _⟩
  | 0, .lst _, h => by simp [okN] at h
  | 0, .tup _, h => by simp [okN] at h
  | 0, .obj _ _, h => by simp [okN] at h
  | n + 1, .obj _ _, h => by simp [okN] at h
  | n + 1, .lst xs, h => by
    have key : ∀ ys : List D, ys.all (okN n) = true → D.pures ys = true ∧ PyData.canLayAll0 (D.pys ys) = true ∧ PyData.depthAll (D.pys ys) ≤ n := by
      intro ys
      induction ys with
      | nil => intro _; exact ⟨rfl, rfl, Nat.zero_le _⟩
      | cons y ys ih =>
        intro h
        obtain ⟨h1, h2⟩ := Bool.and_eq_true_iff.mp (by simpa using h : (okN n y && ys.all (okN n)) = true)
        obtain ⟨a1, a2, a3⟩ := okN_spec n y h1
        obtain ⟨b1, b2, b3⟩ := ih h2
        refine ⟨?_, ?_, ?_⟩
        · show (y.pure && D.pures ys) = true
          rw [a1, b1]; rfl
        · show (PyData.canLay0 y.py && PyData.canLayAll0 (D.pys ys)) = true
          rw [a2, b2]; rfl
        · exact Nat.max_le.mpr ⟨a3, b3⟩
    obtain ⟨k1, k2, k3⟩ := key xs (by simpa [okN] using h)
    exact ⟨k1, k2, Nat.succ_le_succ k3⟩
  | n + 1, .tup xs, h => by
    have key : ∀ ys : List D, ys.all (okN n) = true → D.pures ys = true ∧ PyData.canLayAll0 (D.pys ys) = true ∧ PyData.depthAll (D.pys ys) ≤ n := by
      intro ys
      induction ys with
      | nil => intro _; exact ⟨rfl, rfl, Nat.zero_le _⟩
      | cons y ys ih =>
        intro h
        obtain ⟨h1, h2⟩ := Bool.and_eq_true_iff.mp (by simpa using h : (okN n y && ys.all (okN n)) = true)
        obtain ⟨a1, a2, a3⟩ := okN_spec n y h1
        obtain ⟨b1, b2, b3⟩ := ih h2
        refine ⟨?_, ?_, ?_⟩
        · show (y.pure && D.pures ys) = true
          rw [a1, b1]; rfl
        · show (PyData.canLay0 y.py && PyData.canLayAll0 (D.pys ys)) = true
          rw [a2, b2]; rfl
        · exact Nat.max_le.mpr ⟨a3, b3⟩
    obtain ⟨k1, k2, k3⟩ := key xs (by simpa [okN] using h)
    exact ⟨k1, k2, Nat.succ_le_succ k3⟩
theorem okN_ok {n : Nat} {d : D} (h : okN n d = true) (hn : n ≤ 64 := by decide) : d.ok = true := by
  obtain ⟨h1, h2, h3⟩ := okN_spec n d h
  unfold D.ok SeqAt.shaped
  rw [h1, h2, decide_eq_true (Nat.le_trans h3 hn)]
  rfl

/-! ### a, b, c = [], x, y, the list one's own -/
section
variable {K : PySem.W.Frag} {q : Qd} {G0 H0 G H : Hp} {σ : L2.St} {Δ : En} {W : WX} {te tf : TE} {post : Out → Prop}
/-- a new list lies at p; the slot i gets it -/
theorem Sta.ownAt (s : Sta K q G0 H0 G H σ Δ) {i : Nat} {p : Addr} {ds : List D} {vs : List V} (hp : H p = some (.lst vs)) (r : RpL K G vs ds) (n1 : Nt G p) (n0 : Nt H0 p) (nq : ∀ T, q ≠ some (p, T))
    (other : ∀ (l : Nat) (as : List D), Δ[l]? = some (Sl.own as) → σ[l]? ≠ some (some (V.ref p))) : Sta K q G0 H0 G H (σ.set i (some (V.ref p))) (Δ.set i (.own ds)) := by
  have old : ∀ {j : Nat} {e : Sl}, (Δ.set i (Sl.own ds))[j]? = some e → (j = i ∧ e = .own ds ∧ i < Δ.length) ∨ (j ≠ i ∧ Δ[j]? = some e ∧ (σ.set i (some (V.ref p)))[j]? = σ[j]?) := fun {j e} he => by
    by_cases c : i = j
    · subst c
      have hl : i < Δ.length := by
        have := (List.getElem?_eq_some_iff.mp he).1
        simpa using this
      rw [List.getElem?_set_self hl] at he
      cases he
      exact .inl ⟨rfl, rfl, hl⟩
    · rw [List.getElem?_set_ne c] at he
      exact .inr ⟨fun z => c z.symm, he, List.getElem?_set_ne c⟩
  have self : ∀ {l : Nat}, l = i → i < Δ.length → (σ.set i (some (V.ref p)))[l]? = some (some (V.ref p)) := fun {l} e hl => by
    subst e
    exact List.getElem?_set_self (by rw [s.rs.len]; exact hl)
  refine ⟨s.gr, s.hq, s.rs.sub, by rw [List.length_set, List.length_set]; exact s.rs.len, s.rs.gq, fun j e he => ?_, fun j bs he => ?_, fun j k bs cs p2 h1' h2' h3' h4' => ?_, fun j T he => ?_⟩
  · rcases old he with ⟨_, c, _⟩ | ⟨_, c, c2⟩
    · cases c
    · rw [c2]; exact s.rs.dat j e c
  · rcases old he with ⟨c1, c, hl⟩ | ⟨_, c, c2⟩
    · cases c
      exact ⟨p, vs, self c1 hl, hp, r, n1, n0, nq⟩
    · rw [c2]; exact s.rs.own j bs c
  · rcases old h1' with ⟨c1, _, hl⟩ | ⟨m1, c1, e1⟩
    · rcases old h2' with ⟨c2, _, _⟩ | ⟨m2, c2, e2⟩
      · rw [c1, c2]
      · rw [self c1 hl] at h3'
        cases h3'
        rw [e2] at h4'
        exact absurd h4' (other _ _ c2)
    · rcases old h2' with ⟨c2, _, hl⟩ | ⟨m2, c2, e2⟩
      · rw [self c2 hl] at h4'
        cases h4'
        rw [e1] at h3'
        exact absurd h3' (other _ _ c1)
      · rw [e1] at h3'
        rw [e2] at h4'
        exact s.rs.dif j k bs cs p2 c1 c2 h3' h4'
  · rcases old he with ⟨_, c, _⟩ | ⟨_, c, c2⟩
    · cases c
    · rw [c2]; exact s.rs.dice j T c
theorem xs1_par30 {i j l : Nat} {d e : D} (h : Ev K (WE W) te Δ (· = d) fun _ => False) (h' : Ev K (WE W) tf Δ (· = e) fun _ => False) (k : post (.nx (((Δ.set i (.own [])).set j (.dat d)).set l (.dat e)))) :
    Xs K W (tPar3 i j l (tCons (tLst tNil) (tCons te (tCons tf tNil)))) Δ post := fun q G0 H0 G H σ T s k1 k2 k3 k4 k5 => by
  refine ⟨Nat.zero_le _, fun p hp => ?_⟩
  have g0 : Gr none G H G (upd H p (.lst [])) :=
    ⟨Exx.refl G, fun _ _ e => .inl e, fun a o e nt => by rw [upd_ne (ne_of_none (s.sub a o e nt) hp)]; exact s.sub a o e nt, fun a o _ e _ => by rw [upd_ne (ne_of_none e hp)]; exact e, fun _ => Tbd.new hp, fun _ _ z => nomatch z⟩
  have s0 := s.go g0.any
  have hGp : Nt G p := fun o c => Classical.byContradiction fun n => by
    rw [s.sub p o c (fun ps z => n ⟨ps, z⟩)] at hp; cases hp
  have hH0 : Nt H0 p := s.gr.live s.hq (.of hp)
  have hqp : ∀ T, q ≠ some (p, T) := fun T c => by
    obtain ⟨x, y, z, e⟩ := (s.dq p T c).1
    rw [hp] at e; cases e
  refine h q G0 H0 G _ σ _ s0 (fun v d' G1 H1 g1 r1 p1 => ?_) fun _ _ _ _ z => z.elim
  refine h' q G0 H0 G1 H1 σ _ (s0.go g1) (fun u e' G2 H2 g2 r2 p2 => ?_) fun _ _ _ _ z => z.elim
  subst p1; subst p2
  have g := s0.tr g1 g2
  have s2 := s0.go g
  have hp2 : H2 p = some (.lst []) := g.kl hqp upd_same
  have hG2 : Nt G2 p := g.un hGp upd_same
  have other : ∀ (l : Nat) (as : List D), Δ[l]? = some (Sl.own as) → σ[l]? ≠ some (some (V.ref p)) := fun l as e z => by
    obtain ⟨p3, vs3, a1, a2, _⟩ := s.rs.own l as e
    rw [a1] at z
    cases z
    rw [hp] at a2; cases a2
  exact ⟨_, _, _, rfl, k1 _ _ G2 H2 g.ex (((s2.ownAt (i := i) hp2 .nil hG2 hH0 hqp other).set (r1.ex g2.ex)).set r2) k⟩
end
/-! ### range(a, b, c) upward -/
theorem RgC.up {n l : Nat} (h0 : 0 < l) (h1 : l < 2 ^ 29) (h2 : n < 2 ^ 60) : RgC 0 (n : Int) (l : Int) ((n + l - 1) / l) := by
  have e : Builtin.Range.rangeSize 0 (n : Int) (l : Int) = (((n + l - 1) / l : Nat) : Int) := by
    unfold Builtin.Range.rangeSize
    rw [if_pos (by omega)]
    by_cases hn : n = 0
    · subst hn
      rw [if_neg (by omega)]
      have : (0 + l - 1) / l = 0 := Nat.div_eq_of_lt (by omega)
      rw [this]; rfl
    · rw [if_pos (by omega)]
      have e1 : n + l - 1 = (n - 1) + l := by omega
      rw [e1, Nat.add_div_right _ h0]
      have e2 : (n : Int) - 0 - 1 = ((n - 1 : Nat) : Int) := by omega
      rw [e2, Int.natCast_add, Int.natCast_ediv]
      rfl
  refine ⟨by omega, by omega, ?_, e⟩
  have h3 : (n + l - 1) / l ≤ n + l := Nat.le_trans (Nat.div_le_self _ _) (by omega)
  have h4 : (n + l - 1) / l * l ≤ n + l - 1 := Nat.div_mul_le_self _ _
  unfold Builtin.Range.small
  rw [e]
  have e5 : (((n + l - 1) / l : Nat) : Int) * (l : Int) = (((n + l - 1) / l * l : Nat) : Int) := by rw [Int.natCast_mul]
  simp only [Builtin.Range.rangeFitsLong, Bool.and_eq_true, Bool.or_eq_true, decide_eq_true_eq, beq_iff_eq]
  generalize (n + l - 1) / l = m at *
  refine ⟨by omega, .inr ?_⟩
  rw [if_pos (by omega)]
  simp only [Bool.and_eq_true, decide_eq_true_eq]
  omega
end Ts


/-! k27_sorted_in_runs: the readings of the defs and their derivations. Printed by gen.py. -/
namespace K27
open PySem PySem.Spec PyProof.Rows L2 Ts

def top (i : Nat) : Stmt := PySem.Challenge.pw_tablestack_k27_sorted_in_runs.main.body.getD i (.Pass ⟨0, 0, 0, 0⟩)

def inClass (s : Stmt) (i : Nat) : Stmt := match s with
  | .ClassDef _ _ _ body _ _ _ _ _ _ _ => body.getD i (.Pass ⟨0, 0, 0, 0⟩)
  | _ => .Pass ⟨0, 0, 0, 0⟩

/-- what the module says -/
structure Txt (K : PySem.W.Frag) (mg : Str → Option Value) : Prop where
  x_PlanFault : PySem.W.excIn K (He.ga K "PlanFault") He.veBase "ValueError.__new__" = true
  g_PlanFault : mg "PlanFault" = some (.ref (He.ga K "PlanFault"))
  k_PlanFault : PySem.W.keepIn K (.ref (He.ga K "PlanFault")) = true
  b_PlanFault : PySem.W.subIn K (.ref (He.ga K "PlanFault")) (.type "BaseException") = some true
  t_PlanFault : PySem.W.typeIn K (.ref (He.ga K "PlanFault")) = some (.type "type")
  n_abs : mg "abs" = none
  n_enumerate : mg "enumerate" = none
  n_int : mg "int" = none
  n_len : mg "len" = none
  n_range : mg "range" = none
  n_tuple : mg "tuple" = none
  n_zip : mg "zip" = none

section
variable {P : Program} {w : World} {K : PySem.W.Frag} {mg : Str → Option Value} {base : Heap}

abbrev N__law_told : List Str := ["what"]
abbrev s__law_told : Stmt := (top 13)
theorem sc__law_told : FnScope N__law_told ["what"] (defScope s__law_told) := ⟨rfl, rfl, rfl, by decide +kernel, rfl, by decide +kernel, by decide +kernel⟩

/-! ordered_pair: level 1 -/
abbrev N_ordered_pair : List Str := ["one", "other", "descending", "place", "flag"]
def t_ordered_pair (K : PySem.W.Frag) (W : WX) : TS :=
  (tSeq (tFor (iEnum K (tCons (tVar 2) tNil)) (gTup K 2 (gCons (gName 3) (gCons (gName 4) gNil))) (tIfS (tTest (tOp (rNeG K) (tOp (rIx K) (tVar 0) (tVar 3)) (tOp (rIx K) (tVar 1) (tVar 3)))) (tRet (tOp (rNeG K) (tOp (rLtG K) (tOp (rIx K) (tVar 0) (tVar 3)) (tOp (rIx K) (tVar 1) (tVar 3))) (tVar 4))) tNext))
  (tRet (tC (.bl true))))
abbrev s_ordered_pair : Stmt := (top 4)
theorem sc_ordered_pair : FnScope N_ordered_pair ["one", "other", "descending"] (defScope s_ordered_pair) := ⟨rfl, rfl, rfl, by decide +kernel, rfl, by decide +kernel, by decide +kernel⟩
theorem der_ordered_pair (T : Txt K mg) {f : Addr} {cdv : Value} {A : Around} {outer : List Env} {s : Shared} {H : Hp} {E : XK} (hr : Room 0 (A.deeper (envOfC "ordered_pair" (defScope s_ordered_pair) s.heap.objs.size f cdv))) :
    PSs (cxOf (L2.CX P w) P w K mg base N_ordered_pair "ordered_pair" (defScope s_ordered_pair) f cdv A outer s H E) (defBody s_ordered_pair) (t_ordered_pair K (wDef E)) :=
  (pss_cons (ps_for (passes_of rfl) rfl (pi_enum rfl T.n_enumerate (pa_cons (pv 2) pa_nil)) (pg_tup rfl (pgs_cons (pg_name (i := 3) sc_ordered_pair.nd rfl (by first | exact Or.inl rfl | exact Or.inr rfl)) (pgs_cons (pg_name (i := 4) sc_ordered_pair.nd rfl (by first | exact Or.inl rfl | exact Or.inr rfl)) pgs_nil))) (pss_one (ps_if (pt_cmpR (op_neG hr.units) (pe_ix ix_seq (pv 0) (pv 3) (fun _ _ => rfl)) (pe_ix ix_seq (pv 1) (pv 3) (fun _ _ => rfl)) (nomark _)) (pss_one (ps_ret (pe_cmpR (op_neG hr.units) (pe_cmpR (op_ltG hr.units0) (pe_ix ix_seq (pv 0) (pv 3) (fun _ _ => rfl)) (pe_ix ix_seq (pv 1) (pv 3) (fun _ _ => rfl)) (nomark _)) (pv 4) (nomark _)))) pss_nil)))
  (pss_one (ps_ret pe_bl)))

/-! run_count: level 1 -/
abbrev N_run_count : List Str := ["many", "limit"]
def t_run_count (K : PySem.W.Frag) (W : WX) : TS :=
  (tRet (tOp rDivG (tOp rSubG (tOp (rAddG K) (tVar 0) (tVar 1)) (tC (.int 1))) (tVar 1)))
abbrev s_run_count : Stmt := (top 8)
theorem sc_run_count : FnScope N_run_count ["many", "limit"] (defScope s_run_count) := ⟨rfl, rfl, rfl, by decide +kernel, rfl, by decide +kernel, by decide +kernel⟩
theorem der_run_count (T : Txt K mg) {f : Addr} {cdv : Value} {A : Around} {outer : List Env} {s : Shared} {H : Hp} {E : XK} (hr : Room 0 (A.deeper (envOfC "run_count" (defScope s_run_count) s.heap.objs.size f cdv))) :
    PSs (cxOf (L2.CX P w) P w K mg base N_run_count "run_count" (defScope s_run_count) f cdv A outer s H E) (defBody s_run_count) (t_run_count K (wDef E)) :=
  (pss_one (ps_ret (pe_op op_divG (pe_op op_subG (pe_op op_addG (pv 0) (pv 1)) pe_int) (pv 1))))

/-! _law_dice: level 1 -/
abbrev N__law_dice : List Str := ["cell"]
def t__law_dice (K : PySem.W.Frag) (W : WX) : TS :=
  (tSeq (tIfS (tTest (tChain (rLtG K) (rLtG K) (tOp rSubG (tC (.int 0)) (tC (.int 10))) (tVar 0) (tC (.int 10)))) (tRet (tLst (tCons (tCB rAbs (tCons (tVar 0) tNil)) (tCons (tC (.int 0)) (tCons (tC (.int 2)) tNil))))) tNext)
  (tRet (tLst (tCons (tVar 0) (tCons (tOp (rAddG K) (tC (.int 1)) (tOp rModG (tCB rInt1 (tCons (tVar 0) tNil)) (tC (.int 1009)))) (tCons (tCB rInt1 (tCons (tOp rGeG (tVar 0) (tOp rPowG (tC (.int 10)) (tC (.int 18)))) tNil)) tNil))))))
abbrev s__law_dice : Stmt := (top 10)
theorem sc__law_dice : FnScope N__law_dice ["cell"] (defScope s__law_dice) := ⟨rfl, rfl, rfl, by decide +kernel, rfl, by decide +kernel, by decide +kernel⟩
theorem der__law_dice (T : Txt K mg) {f : Addr} {cdv : Value} {A : Around} {outer : List Env} {s : Shared} {H : Hp} {E : XK} (hr : Room 0 (A.deeper (envOfC "_law_dice" (defScope s__law_dice) s.heap.objs.size f cdv))) :
    PSs (cxOf (L2.CX P w) P w K mg base N__law_dice "_law_dice" (defScope s__law_dice) f cdv A outer s H E) (defBody s__law_dice) (t__law_dice K (wDef E)) :=
  (pss_cons (ps_if (pt_chain (op_ltG hr.units0) (op_ltG hr.units0) (pe_op op_subG pe_int pe_int) (pv 0) pe_int) (pss_one (ps_ret (pe_lst (pa_cons (pe_callB call_absG rfl T.n_abs PyProof.Rows.boot_abs (pa_cons (pv 0) pa_nil)) (pa_cons pe_int (pa_cons pe_int pa_nil)))))) pss_nil)
  (pss_one (ps_ret (pe_lst (pa_cons (pv 0) (pa_cons (pe_op op_addG pe_int (pe_op op_modG (pe_callTy call_intG rfl T.n_int PyProof.Rows.boot_int (pa_cons (pv 0) pa_nil)) pe_int)) (pa_cons (pe_callTy call_intG rfl T.n_int PyProof.Rows.boot_int (pa_cons (pe_cmpR op_geG (pv 0) (pe_op op_powG pe_int pe_int) (nomark _)) pa_nil)) pa_nil)))))))

/-! _law_roll: level 1 -/
abbrev N__law_roll : List Str := ["dice", "many", "found"]
def t__law_roll (K : PySem.W.Frag) (W : WX) : TS :=
  (tSeq (tIfS (tOr (tTest (tOp (rEqG K) (tOp (rIx K) (tVar 0) (tC (.int 2))) (tC (.int 2)))) (tAnd (tTest (tOp (rEqG K) (tOp (rIx K) (tVar 0) (tC (.int 2))) (tC (.int 1)))) (tTest (tOp rGtG (tOp (rIx K) (tVar 0) (tC (.int 0))) (tC (.int 0)))))) (tSeq (tAsg (tOp rModG (tCB rInt1 (tCons (tOp (rIx K) (tVar 0) (tC (.int 0))) tNil)) (tVar 1)) (gName 2))
  (tSeq (tAsg (tOp rDivG (tOp (rIx K) (tVar 0) (tC (.int 0))) (tVar 1)) (gSub (tVar 0) (tC (.int 0)) rSetL))
  (tRet (tVar 2)))) tNext)
  (tSeq (tAsg (tC (.int 0)) (gSub (tVar 0) (tC (.int 2)) rSetL))
  (tSeq (tAsg (tOp rModG (tCB rInt1 (tCons (tOp (rAddG K) (tOp (rAddG K) (tOp rMulG (tOp (rIx K) (tVar 0) (tC (.int 0))) (tC (.int 48271))) (tOp rMulG (tOp (rIx K) (tVar 0) (tC (.int 1))) (tC (.int 69621)))) (tC (.int 11))) tNil)) (tC (.int 2147483647))) (gSub (tVar 0) (tC (.int 0)) rSetL))
  (tSeq (tAsg (tOp (rAddG K) (tOp (rIx K) (tVar 0) (tC (.int 1))) (tC (.int 1))) (gSub (tVar 0) (tC (.int 1)) rSetL))
  (tRet (tOp rModG (tCB rInt1 (tCons (tOp rDivG (tOp (rIx K) (tVar 0) (tC (.int 0))) (tC (.int 7))) tNil)) (tVar 1)))))))
abbrev s__law_roll : Stmt := (top 11)
theorem sc__law_roll : FnScope N__law_roll ["dice", "many"] (defScope s__law_roll) := ⟨rfl, rfl, rfl, by decide +kernel, rfl, by decide +kernel, by decide +kernel⟩
theorem der__law_roll (T : Txt K mg) {f : Addr} {cdv : Value} {A : Around} {outer : List Env} {s : Shared} {H : Hp} {E : XK} (hr : Room 0 (A.deeper (envOfC "_law_roll" (defScope s__law_roll) s.heap.objs.size f cdv))) :
    PSs (cxOf (L2.CX P w) P w K mg base N__law_roll "_law_roll" (defScope s__law_roll) f cdv A outer s H E) (defBody s__law_roll) (t__law_roll K (wDef E)) :=
  (pss_cons (ps_if (PW.pt (pw_or (pt_cmpR (op_eqG hr.units) (pe_ix ix_seq (pv 0) pe_int (fun _ _ => rfl)) pe_int (nomark _)) (pw_or1 (PW.pt (pw_and (pt_cmpR (op_eqG hr.units) (pe_ix ix_seq (pv 0) pe_int (fun _ _ => rfl)) pe_int (nomark _)) (pw_and1 (pt_cmpR op_gtG (pe_ix ix_seq (pv 0) pe_int (fun _ _ => rfl)) pe_int (nomark _)))))))) (pss_cons (ps_set (i := 2) sc__law_roll.nd rfl (by first | exact Or.inl rfl | exact Or.inr rfl) (pe_op op_modG (pe_callTy call_intG rfl T.n_int PyProof.Rows.boot_int (pa_cons (pe_ix ix_seq (pv 0) pe_int (fun _ _ => rfl)) pa_nil)) (pv 1)))
  (pss_cons (ps_asg (pe_op op_divG (pe_ix ix_seq (pv 0) pe_int (fun _ _ => rfl)) (pv 1)) (pg_sub (pv 0) pe_int set_list))
  (pss_one (ps_ret (pv 2))))) pss_nil)
  (pss_cons (ps_asg pe_int (pg_sub (pv 0) pe_int set_list))
  (pss_cons (ps_asg (pe_op op_modG (pe_callTy call_intG rfl T.n_int PyProof.Rows.boot_int (pa_cons (pe_op op_addG (pe_op op_addG (pe_op op_mulG (pe_ix ix_seq (pv 0) pe_int (fun _ _ => rfl)) pe_int) (pe_op op_mulG (pe_ix ix_seq (pv 0) pe_int (fun _ _ => rfl)) pe_int)) pe_int) pa_nil)) pe_int) (pg_sub (pv 0) pe_int set_list))
  (pss_cons (ps_asg (pe_op op_addG (pe_ix ix_seq (pv 0) pe_int (fun _ _ => rfl)) pe_int) (pg_sub (pv 0) pe_int set_list))
  (pss_one (ps_ret (pe_op op_modG (pe_callTy call_intG rfl T.n_int PyProof.Rows.boot_int (pa_cons (pe_op op_divG (pe_ix ix_seq (pv 0) pe_int (fun _ _ => rfl)) pe_int) pa_nil)) (pv 1))))))))

/-! _law_before: level 1 -/
abbrev N__law_before : List Str := ["one", "other", "descending", "a", "b", "flag"]
def t__law_before (K : PySem.W.Frag) (W : WX) : TS :=
  (tSeq (tFor (iZip3 K (tCons (tVar 0) (tCons (tVar 1) (tCons (tVar 2) tNil)))) (gTup K 3 (gCons (gName 3) (gCons (gName 4) (gCons (gName 5) gNil)))) (tIfS (tTest (tOp (rNeG K) (tVar 3) (tVar 4))) (tRet (tOp (rNeG K) (tOp (rLtG K) (tVar 3) (tVar 4)) (tVar 5))) tNext))
  (tRet (tC (.bl false))))
abbrev s__law_before : Stmt := (top 14)
theorem sc__law_before : FnScope N__law_before ["one", "other", "descending"] (defScope s__law_before) := ⟨rfl, rfl, rfl, by decide +kernel, rfl, by decide +kernel, by decide +kernel⟩
theorem der__law_before (T : Txt K mg) {f : Addr} {cdv : Value} {A : Around} {outer : List Env} {s : Shared} {H : Hp} {E : XK} (hr : Room 0 (A.deeper (envOfC "_law_before" (defScope s__law_before) s.heap.objs.size f cdv))) :
    PSs (cxOf (L2.CX P w) P w K mg base N__law_before "_law_before" (defScope s__law_before) f cdv A outer s H E) (defBody s__law_before) (t__law_before K (wDef E)) :=
  (pss_cons (ps_for (passes_of rfl) rfl (pi_zip3 rfl T.n_zip (pa_cons (pv 0) (pa_cons (pv 1) (pa_cons (pv 2) pa_nil)))) (pg_tup rfl (pgs_cons (pg_name (i := 3) sc__law_before.nd rfl (by first | exact Or.inl rfl | exact Or.inr rfl)) (pgs_cons (pg_name (i := 4) sc__law_before.nd rfl (by first | exact Or.inl rfl | exact Or.inr rfl)) (pgs_cons (pg_name (i := 5) sc__law_before.nd rfl (by first | exact Or.inl rfl | exact Or.inr rfl)) pgs_nil)))) (pss_one (ps_if (pt_cmpR (op_neG hr.units) (pv 3) (pv 4) (nomark _)) (pss_one (ps_ret (pe_cmpR (op_neG hr.units) (pe_cmpR (op_ltG hr.units0) (pv 3) (pv 4) (nomark _)) (pv 5) (nomark _)))) pss_nil)))
  (pss_one (ps_ret pe_bl)))

/-! merged_pair: level 2 -/
abbrev N_merged_pair : List Str := ["one", "other", "descending", "found", "first", "second"]
def t_merged_pair (K : PySem.W.Frag) (W : WX) (sp_ordered_pair : Sp) : TS :=
  (tSeq (tPar3 3 4 5 (tCons (tLst tNil) (tCons (tC (.int 0)) (tCons (tC (.int 0)) tNil))))
  (tSeq (tWhile (tAnd (tTest (tOp (rLtG K) (tVar 4) (tCB (rLenC K) (tCons (tVar 0) tNil)))) (tTest (tOp (rLtG K) (tVar 5) (tCB (rLenC K) (tCons (tVar 1) tNil))))) (tIfS (tB (tCallS sp_ordered_pair (WE W) (tCons (tOp (rIx K) (tOp (rIx K) (tVar 0) (tVar 4)) (tC (.int 0))) (tCons (tOp (rIx K) (tOp (rIx K) (tVar 1) (tVar 5)) (tC (.int 0))) (tCons (tVar 2) tNil))))) (tSeq (tDrop (tBM K "list" rAppend (tVar 3) (tCons (tOp (rIx K) (tVar 0) (tVar 4)) tNil)))
  (tAug 4 (tC (.int 1)) rIAddG)) (tSeq (tDrop (tBM K "list" rAppend (tVar 3) (tCons (tOp (rIx K) (tVar 1) (tVar 5)) tNil)))
  (tAug 5 (tC (.int 1)) rIAddG))))
  (tRet (tOp (rAddG K) (tOp (rAddG K) (tVar 3) (tSl (rSlG K) (tVar 0) (tPart (tVar 4)) tNoPart)) (tSl (rSlG K) (tVar 1) (tPart (tVar 5)) tNoPart)))))
abbrev s_merged_pair : Stmt := (top 5)
theorem sc_merged_pair : FnScope N_merged_pair ["one", "other", "descending"] (defScope s_merged_pair) := ⟨rfl, rfl, rfl, by decide +kernel, rfl, by decide +kernel, by decide +kernel⟩
theorem der_merged_pair {sp_ordered_pair : Sp} (T : Txt K mg) (c_ordered_pair : Cal P w K mg base 1 "ordered_pair" sp_ordered_pair) {f : Addr} {cdv : Value} {A : Around} {outer : List Env} {s : Shared} {H : Hp} {E : XK} (hr : Room 1 (A.deeper (envOfC "merged_pair" (defScope s_merged_pair) s.heap.objs.size f cdv))) :
    PSs (cxOf (L2.CX P w) P w K mg base N_merged_pair "merged_pair" (defScope s_merged_pair) f cdv A outer s H E) (defBody s_merged_pair) (t_merged_pair K (wDef E) sp_ordered_pair) :=
  (pss_cons (ps_par3 (i := 3) (j := 4) (l := 5) rfl sc_merged_pair.nd rfl rfl rfl (by decide) (by decide) (by decide) rfl rfl rfl (pa_cons (pe_lst pa_nil) (pa_cons pe_int (pa_cons pe_int pa_nil))) rfl)
  (pss_cons (ps_while (passes_of rfl) (PW.pt (pw_and (pt_cmpR (op_ltG hr.units0) (pv 4) (pe_callB call_lenG rfl T.n_len boot_len (pa_cons (pv 0) pa_nil)) (nomark _)) (pw_and1 (pt_cmpR (op_ltG hr.units0) (pv 5) (pe_callB call_lenG rfl T.n_len boot_len (pa_cons (pv 1) pa_nil)) (nomark _))))) (pss_one (ps_if (pt_val (pe_cal c_ordered_pair hr (by decide) rfl (fun σ => passAt (takes_of rfl rfl rfl rfl) σ) (pa_cons (pe_ix ix_seq (pe_ix ix_seq (pv 0) (pv 4) (fun _ _ => rfl)) pe_int (fun _ _ => rfl)) (pa_cons (pe_ix ix_seq (pe_ix ix_seq (pv 1) (pv 5) (fun _ _ => rfl)) pe_int (fun _ _ => rfl)) (pa_cons (pv 2) pa_nil))))) (pss_cons (ps_expr (pe_bm PySem.F.plainAttrs_list PySem.F.slot_list_append PySem.F.type_list_append mt_append (pv 3) (pa_cons (pe_ix ix_seq (pv 0) (pv 4) (fun _ _ => rfl)) pa_nil)))
  (pss_one (ps_aug (i := 4) sc_merged_pair.nd rfl (by first | exact Or.inl rfl | exact Or.inr rfl) pe_int ip_addG))) (pss_cons (ps_expr (pe_bm PySem.F.plainAttrs_list PySem.F.slot_list_append PySem.F.type_list_append mt_append (pv 3) (pa_cons (pe_ix ix_seq (pv 1) (pv 5) (fun _ _ => rfl)) pa_nil)))
  (pss_one (ps_aug (i := 5) sc_merged_pair.nd rfl (by first | exact Or.inl rfl | exact Or.inr rfl) pe_int ip_addG))))))
  (pss_one (ps_ret (pe_op op_addG (pe_op op_addG (pv 3) (pe_slice sl_G (pv 0) (po_some (pv 4)) po_none)) (pe_slice sl_G (pv 1) (po_some (pv 5)) po_none))))))

/-! sorted_run: level 2 -/
abbrev N_sorted_run : List Str := ["rows", "descending", "found", "row", "place"]
def t_sorted_run (K : PySem.W.Frag) (W : WX) (sp_ordered_pair : Sp) : TS :=
  (tSeq (tAsg (tLst tNil) (gName 2))
  (tSeq (tFor (iSeq K (tVar 0)) (gName 3) (tSeq (tAsg (tCB (rLenC K) (tCons (tVar 2) tNil)) (gName 4))
  (tSeq (tWhile (tAnd (tTest (tOp rGtG (tVar 4) (tC (.int 0)))) (tNot (tB (tCallS sp_ordered_pair (WE W) (tCons (tOp (rIx K) (tOp (rIx K) (tVar 2) (tOp rSubG (tVar 4) (tC (.int 1)))) (tC (.int 0))) (tCons (tOp (rIx K) (tVar 3) (tC (.int 0))) (tCons (tVar 1) tNil))))))) (tAug 4 (tC (.int 1)) rISubG))
  (tDrop (tBM K "list" rIns (tVar 2) (tCons (tVar 4) (tCons (tVar 3) tNil)))))))
  (tRet (tVar 2))))
abbrev s_sorted_run : Stmt := (top 6)
theorem sc_sorted_run : FnScope N_sorted_run ["rows", "descending"] (defScope s_sorted_run) := ⟨rfl, rfl, rfl, by decide +kernel, rfl, by decide +kernel, by decide +kernel⟩
theorem der_sorted_run {sp_ordered_pair : Sp} (T : Txt K mg) (c_ordered_pair : Cal P w K mg base 1 "ordered_pair" sp_ordered_pair) {f : Addr} {cdv : Value} {A : Around} {outer : List Env} {s : Shared} {H : Hp} {E : XK} (hr : Room 1 (A.deeper (envOfC "sorted_run" (defScope s_sorted_run) s.heap.objs.size f cdv))) :
    PSs (cxOf (L2.CX P w) P w K mg base N_sorted_run "sorted_run" (defScope s_sorted_run) f cdv A outer s H E) (defBody s_sorted_run) (t_sorted_run K (wDef E) sp_ordered_pair) :=
  (pss_cons (ps_set (i := 2) sc_sorted_run.nd rfl (by first | exact Or.inl rfl | exact Or.inr rfl) (pe_lst pa_nil))
  (pss_cons (ps_for (passes_of rfl) rfl (pi_seq (pv 0)) (pg_name (i := 3) sc_sorted_run.nd rfl (by first | exact Or.inl rfl | exact Or.inr rfl)) (pss_cons (ps_set (i := 4) sc_sorted_run.nd rfl (by first | exact Or.inl rfl | exact Or.inr rfl) (pe_callB call_lenG rfl T.n_len boot_len (pa_cons (pv 2) pa_nil)))
  (pss_cons (ps_while (passes_of rfl) (PW.pt (pw_and (pt_cmpR op_gtG (pv 4) pe_int (nomark _)) (pw_and1 (pt_not (pt_val (pe_cal c_ordered_pair hr (by decide) rfl (fun σ => passAt (takes_of rfl rfl rfl rfl) σ) (pa_cons (pe_ix ix_seq (pe_ix ix_seq (pv 2) (pe_op op_subG (pv 4) pe_int) (fun _ _ => rfl)) pe_int (fun _ _ => rfl)) (pa_cons (pe_ix ix_seq (pv 3) pe_int (fun _ _ => rfl)) (pa_cons (pv 1) pa_nil))))))))) (pss_one (ps_aug (i := 4) sc_sorted_run.nd rfl (by first | exact Or.inl rfl | exact Or.inr rfl) pe_int ip_subG)))
  (pss_one (ps_expr (pe_bm PySem.F.plainAttrs_list PySem.F.slot_list_insert PySem.F.type_list_insert mt_insert (pv 2) (pa_cons (pv 4) (pa_cons (pv 3) pa_nil))))))))
  (pss_one (ps_ret (pv 2)))))

/-! _law_rounds: level 2 -/
abbrev N__law_rounds : List Str := ["script", "most", "cells", "cell"]
def t__law_rounds (K : PySem.W.Frag) (W : WX) (sp__law_dice : Sp) : TS :=
  (tSeq (tAsg (tSl (rSlG K) (tVar 0) tNoPart (tPart (tVar 1))) (gName 2))
  (tSeq (tIfS (tTest (tOp (rEqG K) (tVar 2) (tLst tNil))) (tAsg (tLst (tCons (tC (.int 0)) tNil)) (gName 2)) tNext)
  (tRet (tLc (iSeq K (tVar 2)) (gName 3) tYes (tCallS sp__law_dice E00 (tCons (tVar 3) tNil)) [3]))))
abbrev s__law_rounds : Stmt := (top 12)
theorem sc__law_rounds : FnScope N__law_rounds ["script", "most"] (defScope s__law_rounds) := ⟨rfl, rfl, rfl, by decide +kernel, rfl, by decide +kernel, by decide +kernel⟩
theorem der__law_rounds {sp__law_dice : Sp} (T : Txt K mg) (c__law_dice : Cal P w K mg base 1 "_law_dice" sp__law_dice) {f : Addr} {cdv : Value} {A : Around} {outer : List Env} {s : Shared} {H : Hp} {E : XK} (hr : Room 1 (A.deeper (envOfC "_law_rounds" (defScope s__law_rounds) s.heap.objs.size f cdv))) :
    PSs (cxOf (L2.CX P w) P w K mg base N__law_rounds "_law_rounds" (defScope s__law_rounds) f cdv A outer s H E) (defBody s__law_rounds) (t__law_rounds K (wDef E) sp__law_dice) :=
  (pss_cons (ps_set (i := 2) sc__law_rounds.nd rfl (by first | exact Or.inl rfl | exact Or.inr rfl) (pe_slice sl_G (pv 0) po_none (po_some (pv 1))))
  (pss_cons (ps_if (pt_cmpR (op_eqG hr.units) (pv 2) (pe_lst pa_nil) (nomark _)) (pss_one (ps_set (i := 2) sc__law_rounds.nd rfl (by first | exact Or.inl rfl | exact Or.inr rfl) (pe_lst (pa_cons pe_int pa_nil)))) pss_nil)
  (pss_one (ps_ret (pe_lc (own := [("cell", 3)]) (g := (gName 3)) rfl sc__law_rounds.nd (pi_seq (pv 2)) (blkOk_by (N := N__law_rounds) (sc := defScope s__law_rounds) (own := [("cell", 3)]) (by decide +kernel)) (fun _ _ _ _ _ => (pg_name (i := 3) sc__law_rounds.nd rfl (by first | exact Or.inl rfl | exact Or.inr rfl))) (fun _ _ _ _ _ => pts_nil) (fun _ _ _ _ _ => (pe_cal c__law_dice hr (by decide) rfl (fun σ => passE) (pa_cons (pv 3) pa_nil))))))))

/-! _law_sorted: level 2 -/
abbrev N__law_sorted : List Str := ["rows", "descending", "found", "row", "place", "one"]
def t__law_sorted (K : PySem.W.Frag) (W : WX) (sp__law_before : Sp) : TS :=
  (tSeq (tAsg (tLst tNil) (gName 2))
  (tSeq (tFor (iSeq K (tVar 0)) (gName 3) (tSeq (tAsg (tCB (rLenC K) (tCons (tLc (iSeq K (tVar 2)) (gName 5) (tNot (tB (tCallS sp__law_before E00 (tCons (tOp (rIx K) (tVar 3) (tC (.int 0))) (tCons (tOp (rIx K) (tVar 5) (tC (.int 0))) (tCons (tVar 1) tNil)))))) (tC (.int 1)) [5]) tNil)) (gName 4))
  (tAsg (tOp (rAddG K) (tOp (rAddG K) (tSl (rSlG K) (tVar 2) tNoPart (tPart (tVar 4))) (tLst (tCons (tVar 3) tNil))) (tSl (rSlG K) (tVar 2) (tPart (tVar 4)) tNoPart)) (gName 2))))
  (tRet (tVar 2))))
abbrev s__law_sorted : Stmt := (top 15)
theorem sc__law_sorted : FnScope N__law_sorted ["rows", "descending"] (defScope s__law_sorted) := ⟨rfl, rfl, rfl, by decide +kernel, rfl, by decide +kernel, by decide +kernel⟩
theorem der__law_sorted {sp__law_before : Sp} (T : Txt K mg) (c__law_before : Cal P w K mg base 1 "_law_before" sp__law_before) {f : Addr} {cdv : Value} {A : Around} {outer : List Env} {s : Shared} {H : Hp} {E : XK} (hr : Room 1 (A.deeper (envOfC "_law_sorted" (defScope s__law_sorted) s.heap.objs.size f cdv))) :
    PSs (cxOf (L2.CX P w) P w K mg base N__law_sorted "_law_sorted" (defScope s__law_sorted) f cdv A outer s H E) (defBody s__law_sorted) (t__law_sorted K (wDef E) sp__law_before) :=
  (pss_cons (ps_set (i := 2) sc__law_sorted.nd rfl (by first | exact Or.inl rfl | exact Or.inr rfl) (pe_lst pa_nil))
  (pss_cons (ps_for (passes_of rfl) rfl (pi_seq (pv 0)) (pg_name (i := 3) sc__law_sorted.nd rfl (by first | exact Or.inl rfl | exact Or.inr rfl)) (pss_cons (ps_set (i := 4) sc__law_sorted.nd rfl (by first | exact Or.inl rfl | exact Or.inr rfl) (pe_callB call_lenG rfl T.n_len boot_len (pa_cons (pe_lc (own := [("one", 5)]) (g := (gName 5)) rfl sc__law_sorted.nd (pi_seq (pv 2)) (blkOk_by (N := N__law_sorted) (sc := defScope s__law_sorted) (own := [("one", 5)]) (by decide +kernel)) (fun _ _ _ _ _ => (pg_name (i := 5) sc__law_sorted.nd rfl (by first | exact Or.inl rfl | exact Or.inr rfl))) (fun _ _ _ _ _ => (pts_one (pt_not (pt_val (pe_cal c__law_before hr (by decide) rfl (fun σ => passE) (pa_cons (pe_ix ix_seq (pv 3) pe_int (fun _ _ => rfl)) (pa_cons (pe_ix ix_seq (pv 5) pe_int (fun _ _ => rfl)) (pa_cons (pv 1) pa_nil)))))))) (fun _ _ _ _ _ => pe_int)) pa_nil)))
  (pss_one (ps_set (i := 2) sc__law_sorted.nd rfl (by first | exact Or.inl rfl | exact Or.inr rfl) (pe_op op_addG (pe_op op_addG (pe_slice sl_G (pv 2) po_none (po_some (pv 4))) (pe_lst (pa_cons (pv 3) pa_nil))) (pe_slice sl_G (pv 2) (po_some (pv 4)) po_none))))))
  (pss_one (ps_ret (pv 2)))))

/-! sort_rows: level 3 -/
abbrev N_sort_rows : List Str := ["rows", "descending", "limit", "runs", "following", "place"]
def t_sort_rows (K : PySem.W.Frag) (W : WX) (sp_merged_pair : Sp) (sp_sorted_run : Sp) : TS :=
  (tSeq (tIfS (tTest (tOp (rLtG K) (tVar 2) (tC (.int 1)))) (fun _ σ H => W (.ref (He.ga K "PlanFault")) none σ H) tNext)
  (tSeq (tAsg (tLc (iRng3 (tCons (tC (.int 0)) (tCons (tCB (rLenC K) (tCons (tVar 0) tNil)) (tCons (tVar 2) tNil)))) (gName 5) tYes (tCallS sp_sorted_run E00 (tCons (tSl (rSlG K) (tVar 0) (tPart (tVar 5)) (tPart (tOp (rAddG K) (tVar 5) (tVar 2)))) (tCons (tVar 1) tNil))) [5]) (gName 3))
  (tSeq (tWhile (tTest (tOp rGtG (tCB (rLenC K) (tCons (tVar 3) tNil)) (tC (.int 1)))) (tSeq (tAsg (tLst tNil) (gName 4))
  (tSeq (tFor (iRng3 (tCons (tC (.int 0)) (tCons (tCB (rLenC K) (tCons (tVar 3) tNil)) (tCons (tC (.int 2)) tNil)))) (gName 5) (tIfS (tTest (tOp (rLtG K) (tOp (rAddG K) (tVar 5) (tC (.int 1))) (tCB (rLenC K) (tCons (tVar 3) tNil)))) (tDrop (tBM K "list" rAppend (tVar 4) (tCons (tCallS sp_merged_pair (WE W) (tCons (tOp (rIx K) (tVar 3) (tVar 5)) (tCons (tOp (rIx K) (tVar 3) (tOp (rAddG K) (tVar 5) (tC (.int 1)))) (tCons (tVar 1) tNil)))) tNil))) (tDrop (tBM K "list" rAppend (tVar 4) (tCons (tOp (rIx K) (tVar 3) (tVar 5)) tNil)))))
  (tAsg (tVar 4) (gName 3)))))
  (tRet (tIf (tTest (tOp (rNeG K) (tVar 3) (tLst tNil))) (tOp (rIx K) (tVar 3) (tC (.int 0))) (tLst tNil))))))
abbrev s_sort_rows : Stmt := (top 7)
theorem sc_sort_rows : FnScope N_sort_rows ["rows", "descending", "limit"] (defScope s_sort_rows) := ⟨rfl, rfl, rfl, by decide +kernel, rfl, by decide +kernel, by decide +kernel⟩
theorem der_sort_rows {sp_merged_pair : Sp} {sp_sorted_run : Sp} (T : Txt K mg) (c_merged_pair : Cal P w K mg base 2 "merged_pair" sp_merged_pair) (c_sorted_run : Cal P w K mg base 2 "sorted_run" sp_sorted_run) {f : Addr} {cdv : Value} {A : Around} {outer : List Env} {s : Shared} {H : Hp} {E : XK} (hr : Room 2 (A.deeper (envOfC "sort_rows" (defScope s_sort_rows) s.heap.objs.size f cdv))) :
    PSs (cxOf (L2.CX P w) P w K mg base N_sort_rows "sort_rows" (defScope s_sort_rows) f cdv A outer s H E) (defBody s_sort_rows) (t_sort_rows K (wDef E) sp_merged_pair sp_sorted_run) :=
  (pss_cons (ps_if (pt_cmpR (op_ltG hr.units0) (pv 2) pe_int (nomark _)) (pss_one (ps_raise rfl (takes_of rfl rfl rfl rfl) (pmk_own PySem.F.excBase_ValueError T.x_PlanFault T.g_PlanFault T.k_PlanFault (raises_own T.b_PlanFault T.t_PlanFault) (by rfl)))) pss_nil)
  (pss_cons (ps_setLc (i := 3) (own := [("place", 5)]) (g := (gName 5)) rfl sc_sort_rows.nd rfl rfl (sw_true rfl rfl rfl (by decide +kernel)) (pi_range3 rfl T.n_range (pa_cons pe_int (pa_cons (pe_callB call_lenG rfl T.n_len boot_len (pa_cons (pv 0) pa_nil)) (pa_cons (pv 2) pa_nil)))) (blkOk_by (N := N_sort_rows) (sc := defScope s_sort_rows) (own := [("place", 5)]) (by decide +kernel)) (fun _ _ _ _ _ => (pg_name (i := 5) sc_sort_rows.nd rfl (by first | exact Or.inl rfl | exact Or.inr rfl))) (fun _ _ _ _ _ => pts_nil) (fun _ _ _ _ _ => (pe_cal c_sorted_run hr (by decide) rfl (fun σ => passE) (pa_cons (pe_slice sl_G (pv 0) (po_some (pv 5)) (po_some (pe_op op_addG (pv 5) (pv 2)))) (pa_cons (pv 1) pa_nil)))))
  (pss_cons (ps_while (passes_of rfl) (pt_cmpR op_gtG (pe_callB call_lenG rfl T.n_len boot_len (pa_cons (pv 3) pa_nil)) pe_int (nomark _)) (pss_cons (ps_set (i := 4) sc_sort_rows.nd rfl (by first | exact Or.inl rfl | exact Or.inr rfl) (pe_lst pa_nil))
  (pss_cons (ps_for (passes_of rfl) rfl (pi_range3 rfl T.n_range (pa_cons pe_int (pa_cons (pe_callB call_lenG rfl T.n_len boot_len (pa_cons (pv 3) pa_nil)) (pa_cons pe_int pa_nil)))) (pg_name (i := 5) sc_sort_rows.nd rfl (by first | exact Or.inl rfl | exact Or.inr rfl)) (pss_one (ps_if (pt_cmpR (op_ltG hr.units0) (pe_op op_addG (pv 5) pe_int) (pe_callB call_lenG rfl T.n_len boot_len (pa_cons (pv 3) pa_nil)) (nomark _)) (pss_one (ps_expr (pe_bm PySem.F.plainAttrs_list PySem.F.slot_list_append PySem.F.type_list_append mt_append (pv 4) (pa_cons (pe_cal c_merged_pair hr (by decide) rfl (fun σ => passAt (takes_of rfl rfl rfl rfl) σ) (pa_cons (pe_ix ix_seq (pv 3) (pv 5) (fun _ _ => rfl)) (pa_cons (pe_ix ix_seq (pv 3) (pe_op op_addG (pv 5) pe_int) (fun _ _ => rfl)) (pa_cons (pv 1) pa_nil)))) pa_nil)))) (pss_one (ps_expr (pe_bm PySem.F.plainAttrs_list PySem.F.slot_list_append PySem.F.type_list_append mt_append (pv 4) (pa_cons (pe_ix ix_seq (pv 3) (pv 5) (fun _ _ => rfl)) pa_nil)))))))
  (pss_one (ps_set (i := 3) sc_sort_rows.nd rfl (by first | exact Or.inl rfl | exact Or.inr rfl) (pv 4))))))
  (pss_one (ps_ret (pe_ifExp (pt_cmpR (op_neG hr.units) (pv 3) (pe_lst pa_nil) (nomark _)) (pe_ix ix_seq (pv 3) pe_int (fun _ _ => rfl)) (pe_lst pa_nil)))))))

/-! law: level 6 -/
abbrev N_law : List Str := ["script", "dice", "many", "descending", "rows", "limit", "due", "half", "one", "other", "first", "second", "k", "j"]
def t_law (K : PySem.W.Frag) (W : WX) (TT : Tb) (sp__law_before : Sp) (sp__law_roll : Sp) (sp__law_rounds : Sp) (sp__law_sorted : Sp) (sp_merged_pair : Sp) (sp_ordered_pair : Sp) (sp_run_count : Sp) (sp_sort_rows : Sp) (sp_sorted_run : Sp) : TS :=
  (tSeq (tFor (iSeq K (tCallS sp__law_rounds (WE W) (tCons (tVar 0) (tCons (tC (.int 1)) tNil)))) (gName 1) (tSeq (tAsg (tOp (rAddG K) (tC (.int 1)) (tCallS sp__law_roll (WE W) (tCons (tVar 1) (tCons (tC (.int 3)) tNil)))) (gName 2))
  (tSeq (tAsg (tLc (iRng1 (tCons (tVar 2) tNil)) (gName 12) tYes (tOp (rEqG K) (tCallS sp__law_roll E00 (tCons (tVar 1) (tCons (tC (.int 2)) tNil))) (tC (.int 1))) [12]) (gName 3))
  (tSeq (tAsg (tLc (iRng1 (tCons (tCallS sp__law_roll (WE W) (tCons (tVar 1) (tCons (tC (.int 31)) tNil))) tNil)) (gName 12) tYes (tTup (tCons (tCB (rTupO K) (tCons (tLc (iRng1 (tCons (tVar 2) tNil)) (gName 13) tYes (tCallS sp__law_roll E00 (tCons (tVar 1) (tCons (tC (.int 4)) tNil))) [13]) tNil)) (tCons (tTup (tCons (tC (.str "row")) (tCons (tVar 12) tNil))) tNil))) [12]) (gName 4))
  (tSeq (tAsg (tOp (rAddG K) (tC (.int 1)) (tCallS sp__law_roll (WE W) (tCons (tVar 1) (tCons (tC (.int 9)) tNil)))) (gName 5))
  (tSeq (tAsg (tCallS sp__law_sorted (WE W) (tCons (tVar 4) (tCons (tVar 3) tNil))) (gName 6))
  (tSeq (tIfS (tOr (tTest (tOp (rNeG K) (tCallS sp_sort_rows (WE W) (tCons (tVar 4) (tCons (tVar 3) (tCons (tVar 5) tNil)))) (tVar 6))) (tTest (tOp (rNeG K) (tCallS sp_sorted_run (WE W) (tCons (tSl (rSlG K) (tVar 4) tNoPart (tPart (tC (.int 6)))) (tCons (tVar 3) tNil))) (tCallS sp__law_sorted (WE W) (tCons (tSl (rSlG K) (tVar 4) tNoPart (tPart (tC (.int 6)))) (tCons (tVar 3) tNil)))))) (tRet (tC (.bl false))) tNext)
  (tSeq (tAsg (tCallS sp__law_roll (WE W) (tCons (tVar 1) (tCons (tOp (rAddG K) (tCB (rLenC K) (tCons (tVar 4) tNil)) (tC (.int 1))) tNil))) (gName 7))
  (tSeq (tPar 8 9 (tCons (tCallS sp__law_sorted (WE W) (tCons (tSl (rSlG K) (tVar 4) tNoPart (tPart (tVar 7))) (tCons (tVar 3) tNil))) (tCons (tCallS sp__law_sorted (WE W) (tCons (tSl (rSlG K) (tVar 4) (tPart (tVar 7)) tNoPart) (tCons (tVar 3) tNil))) tNil)))
  (tSeq (tIfS (tOr (tTest (tOp (rNeG K) (tCallS sp_merged_pair (WE W) (tCons (tVar 8) (tCons (tVar 9) (tCons (tVar 3) tNil)))) (tVar 6))) (tTest (tOp (rNeG K) (tCallS sp_run_count (WE W) (tCons (tCB (rLenC K) (tCons (tVar 4) tNil)) (tCons (tVar 5) tNil))) (tCB rLenRng3 (tCons (tC (.int 0)) (tCons (tCB (rLenC K) (tCons (tVar 4) tNil)) (tCons (tVar 5) tNil))))))) (tRet (tC (.bl false))) tNext)
  (tFor (iZip K (tCons (tVar 4) (tCons (tSl (rSlG K) (tVar 4) (tPart (tC (.int 1))) tNoPart) tNil))) (gTup K 2 (gCons (gName 10) (gCons (gName 11) gNil))) (tIfS (tTest (tOp (rEqG K) (tCallS sp_ordered_pair (WE W) (tCons (tOp (rIx K) (tVar 10) (tC (.int 0))) (tCons (tOp (rIx K) (tVar 11) (tC (.int 0))) (tCons (tVar 3) tNil)))) (tCallS sp__law_before (WE W) (tCons (tOp (rIx K) (tVar 11) (tC (.int 0))) (tCons (tOp (rIx K) (tVar 10) (tC (.int 0))) (tCons (tVar 3) tNil)))))) (tRet (tC (.bl false))) tNext))))))))))))
  (tRet (tAndV (tOp (rEqG K) (LamX.tLam TT (LamX.TTold K (He.ga K "PlanFault") "PlanFault") (fun EL => (tCallS sp_sort_rows (WE (wDef EL)) (tCons (tLst tNil) (tCons (tLst tNil) (tCons (tC (.int 0)) tNil)))))) (tC (.str "PlanFault"))) (tOp (rEqG K) (tCallS sp_sort_rows (WE W) (tCons (tLst tNil) (tCons (tLst (tCons (tC (.bl false)) tNil)) (tCons (tC (.int 3)) tNil)))) (tLst tNil)))))
abbrev s_law : Stmt := (top 16)
theorem sc_law : FnScope N_law ["script"] (defScope s_law) := ⟨rfl, rfl, rfl, by decide +kernel, rfl, by decide +kernel, by decide +kernel⟩
abbrev lamQ_law : Str := (envOfC "law" (defScope s_law) 0 0 .none).qual ++ "<lambda>"
theorem der_law {sp__law_before : Sp} {sp__law_roll : Sp} {sp__law_rounds : Sp} {sp__law_sorted : Sp} {sp_merged_pair : Sp} {sp_ordered_pair : Sp} {sp_run_count : Sp} {sp_sort_rows : Sp} {sp_sorted_run : Sp} (T : Txt K mg) (c__law_before : Cal P w K mg base 1 "_law_before" sp__law_before) (c__law_roll : Cal P w K mg base 1 "_law_roll" sp__law_roll) (c__law_rounds : Cal P w K mg base 2 "_law_rounds" sp__law_rounds) (c__law_sorted : Cal P w K mg base 2 "_law_sorted" sp__law_sorted) (c_merged_pair : Cal P w K mg base 2 "merged_pair" sp_merged_pair) (c_ordered_pair : Cal P w K mg base 1 "ordered_pair" sp_ordered_pair) (c_run_count : Cal P w K mg base 1 "run_count" sp_run_count) (c_sort_rows : Cal P w K mg base 3 "sort_rows" sp_sort_rows) (c_sorted_run : Cal P w K mg base 2 "sorted_run" sp_sorted_run) {f : Addr} {cdv : Value} {A : Around} {outer : List Env} {s : Shared} {H : Hp} {E : XK} {TT : Tb} {cc Pt : Addr} (TB : LamX.TabB base mg cc Pt) (hmT : (Pt, lamQ_law) ∈ TT) (hu : ∀ p ∈ TT, p.1 = Pt → p.2 = lamQ_law) {g_told : Addr} {fd_told : FuncData} (F_told : FunD K "_law_told" "_law_told" (defArgs s__law_told) (defBody s__law_told) (defScope s__law_told) [] [] g_told fd_told) (M_told : mg "_law_told" = some (.ref g_told)) (B_told : Binds K fd_told ["what"] []) (HC : cdv = .ref cc) (hr : Room 5 (A.deeper (envOfC "law" (defScope s_law) s.heap.objs.size f cdv))) :
    PSs (cxOf (L2.CX P w) P w K mg base N_law "law" (defScope s_law) f cdv A outer s H E) (defBody s_law) (t_law K (wDef E) TT sp__law_before sp__law_roll sp__law_rounds sp__law_sorted sp_merged_pair sp_ordered_pair sp_run_count sp_sort_rows sp_sorted_run) :=
  (pss_cons (ps_for (passes_of rfl) rfl (pi_seq (pe_cal c__law_rounds hr (by decide) rfl (fun σ => passAt (takes_of rfl rfl rfl rfl) σ) (pa_cons (pv 0) (pa_cons pe_int pa_nil)))) (pg_name (i := 1) sc_law.nd rfl (by first | exact Or.inl rfl | exact Or.inr rfl)) (pss_cons (ps_set (i := 2) sc_law.nd rfl (by first | exact Or.inl rfl | exact Or.inr rfl) (pe_op op_addG pe_int (pe_cal c__law_roll hr (by decide) rfl (fun σ => passAt (takes_of rfl rfl rfl rfl) σ) (pa_cons (pv 1) (pa_cons pe_int pa_nil)))))
  (pss_cons (ps_setLc (i := 3) (own := [("k", 12)]) (g := (gName 12)) rfl sc_law.nd rfl rfl (sw_true rfl rfl rfl (by decide +kernel)) (pi_range1 rfl T.n_range (pa_cons (pv 2) pa_nil)) (blkOk_by (N := N_law) (sc := defScope s_law) (own := [("k", 12)]) (by decide +kernel)) (fun _ _ _ _ _ => (pg_name (i := 12) sc_law.nd rfl (by first | exact Or.inl rfl | exact Or.inr rfl))) (fun _ _ _ _ _ => pts_nil) (fun _ _ _ _ _ => (pe_cmpR (op_eqG hr.units) (pe_cal c__law_roll hr (by decide) rfl (fun σ => passE) (pa_cons (pv 1) (pa_cons pe_int pa_nil))) pe_int (nomark _))))
  (pss_cons (ps_setLc (i := 4) (own := [("k", 12)]) (g := (gName 12)) rfl sc_law.nd rfl rfl (sw_true rfl rfl rfl (by decide +kernel)) (pi_range1 rfl T.n_range (pa_cons (pe_cal c__law_roll hr (by decide) rfl (fun σ => passAt (takes_of rfl rfl rfl rfl) σ) (pa_cons (pv 1) (pa_cons pe_int pa_nil))) pa_nil)) (blkOk_by (N := N_law) (sc := defScope s_law) (own := [("k", 12)]) (by decide +kernel)) (fun _ _ _ _ _ => (pg_name (i := 12) sc_law.nd rfl (by first | exact Or.inl rfl | exact Or.inr rfl))) (fun _ _ _ _ _ => pts_nil) (fun _ _ _ _ _ => (pe_tup (pa_cons (pe_callTy call_tupG rfl T.n_tuple PyProof.Rows.boot_tuple (pa_cons (pe_lc (own := [("j", 13)]) (g := (gName 13)) rfl sc_law.nd (pi_range1 rfl T.n_range (pa_cons (pv 2) pa_nil)) (blkOk_by (own := [("j", 13)]) (by kernel_rfl)) (fun _ _ _ _ _ => (pg_name (i := 13) sc_law.nd rfl (by first | exact Or.inl rfl | exact Or.inr rfl))) (fun _ _ _ _ _ => pts_nil) (fun _ _ _ _ _ => (pe_cal c__law_roll hr (by decide) rfl (fun σ => passE) (pa_cons (pv 1) (pa_cons pe_int pa_nil))))) pa_nil)) (pa_cons (pe_tup (pa_cons pe_str (pa_cons (pv 12) pa_nil))) pa_nil)))))
  (pss_cons (ps_set (i := 5) sc_law.nd rfl (by first | exact Or.inl rfl | exact Or.inr rfl) (pe_op op_addG pe_int (pe_cal c__law_roll hr (by decide) rfl (fun σ => passAt (takes_of rfl rfl rfl rfl) σ) (pa_cons (pv 1) (pa_cons pe_int pa_nil)))))
  (pss_cons (ps_set (i := 6) sc_law.nd rfl (by first | exact Or.inl rfl | exact Or.inr rfl) (pe_cal c__law_sorted hr (by decide) rfl (fun σ => passAt (takes_of rfl rfl rfl rfl) σ) (pa_cons (pv 4) (pa_cons (pv 3) pa_nil))))
  (pss_cons (ps_if (PW.pt (pw_or (pt_cmpR (op_neG hr.units) (pe_cal c_sort_rows hr (by decide) rfl (fun σ => passAt (takes_of rfl rfl rfl rfl) σ) (pa_cons (pv 4) (pa_cons (pv 3) (pa_cons (pv 5) pa_nil)))) (pv 6) (nomark _)) (pw_or1 (pt_cmpR (op_neG hr.units) (pe_cal c_sorted_run hr (by decide) rfl (fun σ => passAt (takes_of rfl rfl rfl rfl) σ) (pa_cons (pe_slice sl_G (pv 4) po_none (po_some pe_int)) (pa_cons (pv 3) pa_nil))) (pe_cal c__law_sorted hr (by decide) rfl (fun σ => passAt (takes_of rfl rfl rfl rfl) σ) (pa_cons (pe_slice sl_G (pv 4) po_none (po_some pe_int)) (pa_cons (pv 3) pa_nil))) (nomark _))))) (pss_one (ps_ret pe_bl)) pss_nil)
  (pss_cons (ps_set (i := 7) sc_law.nd rfl (by first | exact Or.inl rfl | exact Or.inr rfl) (pe_cal c__law_roll hr (by decide) rfl (fun σ => passAt (takes_of rfl rfl rfl rfl) σ) (pa_cons (pv 1) (pa_cons (pe_op op_addG (pe_callB call_lenG rfl T.n_len boot_len (pa_cons (pv 4) pa_nil)) pe_int) pa_nil))))
  (pss_cons (ps_par (i := 8) (j := 9) rfl sc_law.nd rfl rfl (by decide) rfl rfl (pa_cons (pe_cal c__law_sorted hr (by decide) rfl (fun σ => passAt (takes_of rfl rfl rfl rfl) σ) (pa_cons (pe_slice sl_G (pv 4) po_none (po_some (pv 7))) (pa_cons (pv 3) pa_nil))) (pa_cons (pe_cal c__law_sorted hr (by decide) rfl (fun σ => passAt (takes_of rfl rfl rfl rfl) σ) (pa_cons (pe_slice sl_G (pv 4) (po_some (pv 7)) po_none) (pa_cons (pv 3) pa_nil))) pa_nil)) rfl)
  (pss_cons (ps_if (PW.pt (pw_or (pt_cmpR (op_neG hr.units) (pe_cal c_merged_pair hr (by decide) rfl (fun σ => passAt (takes_of rfl rfl rfl rfl) σ) (pa_cons (pv 8) (pa_cons (pv 9) (pa_cons (pv 3) pa_nil)))) (pv 6) (nomark _)) (pw_or1 (pt_cmpR (op_neG hr.units) (pe_cal c_run_count hr (by decide) rfl (fun σ => passAt (takes_of rfl rfl rfl rfl) σ) (pa_cons (pe_callB call_lenG rfl T.n_len boot_len (pa_cons (pv 4) pa_nil)) (pa_cons (pv 5) pa_nil))) (pe_lenRng3 rfl T.n_len rfl T.n_range (pa_cons pe_int (pa_cons (pe_callB call_lenG rfl T.n_len boot_len (pa_cons (pv 4) pa_nil)) (pa_cons (pv 5) pa_nil)))) (nomark _))))) (pss_one (ps_ret pe_bl)) pss_nil)
  (pss_one (ps_for (passes_of rfl) rfl (pi_zip rfl T.n_zip (pa_cons (pv 4) (pa_cons (pe_slice sl_G (pv 4) (po_some pe_int) po_none) pa_nil))) (pg_tup rfl (pgs_cons (pg_name (i := 10) sc_law.nd rfl (by first | exact Or.inl rfl | exact Or.inr rfl)) (pgs_cons (pg_name (i := 11) sc_law.nd rfl (by first | exact Or.inl rfl | exact Or.inr rfl)) pgs_nil))) (pss_one (ps_if (pt_cmpR (op_eqG hr.units) (pe_cal c_ordered_pair hr (by decide) rfl (fun σ => passAt (takes_of rfl rfl rfl rfl) σ) (pa_cons (pe_ix ix_seq (pv 10) pe_int (fun _ _ => rfl)) (pa_cons (pe_ix ix_seq (pv 11) pe_int (fun _ _ => rfl)) (pa_cons (pv 3) pa_nil)))) (pe_cal c__law_before hr (by decide) rfl (fun σ => passAt (takes_of rfl rfl rfl rfl) σ) (pa_cons (pe_ix ix_seq (pv 11) pe_int (fun _ _ => rfl)) (pa_cons (pe_ix ix_seq (pv 10) pe_int (fun _ _ => rfl)) (pa_cons (pv 3) pa_nil)))) (nomark _)) (pss_one (ps_ret pe_bl)) pss_nil))))))))))))))
  (pss_one (ps_ret (pe_and (pe_cmpR (op_eqG hr.units) (pe_told (k := 3) F_told M_told B_told sc__law_told (.inl rfl) rfl T.g_PlanFault TB HC hmT hu hr rfl (LamX.lamS_by (sc := defScope s_law) (by decide +kernel)) rfl (fun _ _ _ _ _ => rfl) (fun A outer s H EL f c' hr => (pe_cal c_sort_rows hr (by decide) rfl (fun σ => passAt (takes_of rfl rfl rfl rfl) σ) (pa_cons (pe_lst pa_nil) (pa_cons (pe_lst pa_nil) (pa_cons pe_int pa_nil)))))) pe_str (nomark _)) (pe_one (pe_cmpR (op_eqG hr.units) (pe_cal c_sort_rows hr (by decide) rfl (fun σ => passAt (takes_of rfl rfl rfl rfl) σ) (pa_cons (pe_lst pa_nil) (pa_cons (pe_lst (pa_cons pe_bl pa_nil)) (pa_cons pe_int pa_nil)))) (pe_lst pa_nil) (nomark _)))))))

def b_law (K : PySem.W.Frag) (W : WX) (TT : Tb) (sp__law_before : Sp) (sp__law_roll : Sp) (sp__law_rounds : Sp) (sp__law_sorted : Sp) (sp_merged_pair : Sp) (sp_ordered_pair : Sp) (sp_run_count : Sp) (sp_sort_rows : Sp) (sp_sorted_run : Sp) : TS :=
  (tSeq (tAsg (tOp (rAddG K) (tC (.int 1)) (tCallS sp__law_roll (WE W) (tCons (tVar 1) (tCons (tC (.int 3)) tNil)))) (gName 2))
  (tSeq (tAsg (tLc (iRng1 (tCons (tVar 2) tNil)) (gName 12) tYes (tOp (rEqG K) (tCallS sp__law_roll E00 (tCons (tVar 1) (tCons (tC (.int 2)) tNil))) (tC (.int 1))) [12]) (gName 3))
  (tSeq (tAsg (tLc (iRng1 (tCons (tCallS sp__law_roll (WE W) (tCons (tVar 1) (tCons (tC (.int 31)) tNil))) tNil)) (gName 12) tYes (tTup (tCons (tCB (rTupO K) (tCons (tLc (iRng1 (tCons (tVar 2) tNil)) (gName 13) tYes (tCallS sp__law_roll E00 (tCons (tVar 1) (tCons (tC (.int 4)) tNil))) [13]) tNil)) (tCons (tTup (tCons (tC (.str "row")) (tCons (tVar 12) tNil))) tNil))) [12]) (gName 4))
  (tSeq (tAsg (tOp (rAddG K) (tC (.int 1)) (tCallS sp__law_roll (WE W) (tCons (tVar 1) (tCons (tC (.int 9)) tNil)))) (gName 5))
  (tSeq (tAsg (tCallS sp__law_sorted (WE W) (tCons (tVar 4) (tCons (tVar 3) tNil))) (gName 6))
  (tSeq (tIfS (tOr (tTest (tOp (rNeG K) (tCallS sp_sort_rows (WE W) (tCons (tVar 4) (tCons (tVar 3) (tCons (tVar 5) tNil)))) (tVar 6))) (tTest (tOp (rNeG K) (tCallS sp_sorted_run (WE W) (tCons (tSl (rSlG K) (tVar 4) tNoPart (tPart (tC (.int 6)))) (tCons (tVar 3) tNil))) (tCallS sp__law_sorted (WE W) (tCons (tSl (rSlG K) (tVar 4) tNoPart (tPart (tC (.int 6)))) (tCons (tVar 3) tNil)))))) (tRet (tC (.bl false))) tNext)
  (tSeq (tAsg (tCallS sp__law_roll (WE W) (tCons (tVar 1) (tCons (tOp (rAddG K) (tCB (rLenC K) (tCons (tVar 4) tNil)) (tC (.int 1))) tNil))) (gName 7))
  (tSeq (tPar 8 9 (tCons (tCallS sp__law_sorted (WE W) (tCons (tSl (rSlG K) (tVar 4) tNoPart (tPart (tVar 7))) (tCons (tVar 3) tNil))) (tCons (tCallS sp__law_sorted (WE W) (tCons (tSl (rSlG K) (tVar 4) (tPart (tVar 7)) tNoPart) (tCons (tVar 3) tNil))) tNil)))
  (tSeq (tIfS (tOr (tTest (tOp (rNeG K) (tCallS sp_merged_pair (WE W) (tCons (tVar 8) (tCons (tVar 9) (tCons (tVar 3) tNil)))) (tVar 6))) (tTest (tOp (rNeG K) (tCallS sp_run_count (WE W) (tCons (tCB (rLenC K) (tCons (tVar 4) tNil)) (tCons (tVar 5) tNil))) (tCB rLenRng3 (tCons (tC (.int 0)) (tCons (tCB (rLenC K) (tCons (tVar 4) tNil)) (tCons (tVar 5) tNil))))))) (tRet (tC (.bl false))) tNext)
  (tFor (iZip K (tCons (tVar 4) (tCons (tSl (rSlG K) (tVar 4) (tPart (tC (.int 1))) tNoPart) tNil))) (gTup K 2 (gCons (gName 10) (gCons (gName 11) gNil))) (tIfS (tTest (tOp (rEqG K) (tCallS sp_ordered_pair (WE W) (tCons (tOp (rIx K) (tVar 10) (tC (.int 0))) (tCons (tOp (rIx K) (tVar 11) (tC (.int 0))) (tCons (tVar 3) tNil)))) (tCallS sp__law_before (WE W) (tCons (tOp (rIx K) (tVar 11) (tC (.int 0))) (tCons (tOp (rIx K) (tVar 10) (tC (.int 0))) (tCons (tVar 3) tNil)))))) (tRet (tC (.bl false))) tNext)))))))))))
def f_law (K : PySem.W.Frag) (W : WX) (TT : Tb) (sp__law_before : Sp) (sp__law_roll : Sp) (sp__law_rounds : Sp) (sp__law_sorted : Sp) (sp_merged_pair : Sp) (sp_ordered_pair : Sp) (sp_run_count : Sp) (sp_sort_rows : Sp) (sp_sorted_run : Sp) : TE :=
  (tAndV (tOp (rEqG K) (LamX.tLam TT (LamX.TTold K (He.ga K "PlanFault") "PlanFault") (fun EL => (tCallS sp_sort_rows (WE (wDef EL)) (tCons (tLst tNil) (tCons (tLst tNil) (tCons (tC (.int 0)) tNil)))))) (tC (.str "PlanFault"))) (tOp (rEqG K) (tCallS sp_sort_rows (WE W) (tCons (tLst tNil) (tCons (tLst (tCons (tC (.bl false)) tNil)) (tCons (tC (.int 3)) tNil)))) (tLst tNil)))

end
end K27


/-! The mathematics of sorting in runs: plain Lean. -/
namespace K27
/-! ### insertion, merging -/
section
variable {α : Type} (le : α → α → Bool)
def ins (x : α) : List α → List α
  | [] => [x]
  | y :: t => if le y x = true then y :: ins x t else x :: y :: t
def isort (xs : List α) : List α := xs.foldl (fun t x => ins le x t) []
def mrg : List α → List α → List α
  | [], t => t
  | a :: s, [] => a :: s
  | a :: s, b :: t => if le a b = true then a :: mrg s (b :: t) else b :: mrg (a :: s) t
  termination_by s t => s.length + t.length
/-- how many stand before x -/
def plc (x : α) (t : List α) : Nat := (t.filter fun y => le y x).length
variable {le}
theorem mrg_nil_r (s : List α) : mrg le s [] = s := by
  cases s <;> simp [mrg]
theorem ins_len (x : α) : ∀ t, (ins le x t).length = t.length + 1
  | [] => rfl
  | y :: t => by
    unfold ins
    split
    · simp [ins_len x t]
    · rfl
theorem isort_snoc (xs : List α) (x : α) : isort le (xs ++ [x]) = ins le x (isort le xs) := by simp [isort]
theorem isort_len_go : ∀ (xs t : List α), (xs.foldl (fun t x => ins le x t) t).length = t.length + xs.length
  | [], t => by simp
  | x :: xs, t => by
    rw [List.foldl_cons, isort_len_go xs]
    simp [ins_len]
    omega
theorem isort_len (xs : List α) : (isort le xs).length = xs.length := by simp [isort, isort_len_go]
theorem mrg_len : ∀ (s t : List α), (mrg le s t).length = s.length + t.length
  | [], t => by simp [mrg]
  | a :: s, [] => by simp [mrg]
  | a :: s, b :: t => by
    rw [mrg]
    split
    · rw [List.length_cons, mrg_len s (b :: t)]; simp; omega
    · rw [List.length_cons, mrg_len (a :: s) t]; simp; omega
  termination_by s t => s.length + t.length
theorem mem_ins {x z : α} : ∀ {t : List α}, z ∈ ins le x t → z = x ∨ z ∈ t
  | [], h => by simpa [ins] using h
  | y :: t, h => by
    unfold ins at h
    split at h
    · rcases List.mem_cons.mp h with e | h
      · exact .inr (by simp [e])
      · rcases mem_ins h with e | h
        · exact .inl e
        · exact .inr (by simp [h])
    · simpa using h
theorem mem_foldl {z : α} : ∀ {xs t : List α}, z ∈ xs.foldl (fun t x => ins le x t) t → z ∈ t ∨ z ∈ xs
  | [], t, h => .inl h
  | x :: xs, t, h => by
    rcases mem_foldl (xs := xs) h with h | h
    · rcases mem_ins h with e | h
      · exact .inr (by simp [e])
      · exact .inl h
    · exact .inr (by simp [h])
theorem mem_isort {z : α} {xs : List α} (h : z ∈ isort le xs) : z ∈ xs := by
  rcases mem_foldl h with h | h
  · cases h
  · exact h
variable (tr : ∀ a b c, le a b = true → le b c = true → le a c = true) (to : ∀ a b, le a b = true ∨ le b a = true)
include tr to
theorem mrg_ins (x : α) : ∀ (s t : List α), mrg le s (ins le x t) = ins le x (mrg le s t)
  | [], t => by simp [mrg]
  | a :: s, [] => by
    have ih := mrg_ins x s []
    have e : ins le x ([] : List α) = [x] := rfl
    rw [e] at ih ⊢
    rw [mrg_nil_r] at ih ⊢
    rw [mrg, ih, mrg_nil_r]
    rfl
  | a :: s, b :: t => by
    have i1 := mrg_ins x s (b :: t)
    have i2 := mrg_ins x (a :: s) t
    cases hab : le a b with
    | true =>
      have e : mrg le (a :: s) (b :: t) = a :: mrg le s (b :: t) := by rw [mrg, if_pos hab]
      rw [e]
      cases hbx : le b x with
      | true =>
        have hax := tr a b x hab hbx
        have e2 : ins le x (b :: t) = b :: ins le x t := by rw [ins, if_pos hbx]
        have e3 : ins le x (a :: mrg le s (b :: t)) = a :: ins le x (mrg le s (b :: t)) := by rw [ins, if_pos hax]
        rw [e3, ← i1, e2, mrg, if_pos hab]
      | false =>
        have e2 : ins le x (b :: t) = x :: b :: t := by rw [ins, hbx, if_neg (by decide)]
        rw [e2] at i1 ⊢
        cases hax : le a x with
        | true =>
          rw [mrg, if_pos hax, i1, ins, if_pos hax]
        | false =>
          rw [mrg, hax, if_neg (by decide), e, ins, hax, if_neg (by decide)]
    | false =>
      have e : mrg le (a :: s) (b :: t) = b :: mrg le (a :: s) t := by rw [mrg, hab, if_neg (by decide)]
      rw [e]
      cases hbx : le b x with
      | true =>
        have e2 : ins le x (b :: t) = b :: ins le x t := by rw [ins, if_pos hbx]
        have e3 : ins le x (b :: mrg le (a :: s) t) = b :: ins le x (mrg le (a :: s) t) := by rw [ins, if_pos hbx]
        rw [e3, e2, mrg, hab, if_neg (by decide), i2]
      | false =>
        have e2 : ins le x (b :: t) = x :: b :: t := by rw [ins, hbx, if_neg (by decide)]
        have hax : le a x = false := by
          cases h : le a x with
          | false => rfl
          | true =>
            rcases to b x with z | z
            · rw [hbx] at z; cases z
            · have := tr a x b h z
              rw [hab] at this; cases this
        rw [e2, mrg, hax, if_neg (by decide), e, ins, hbx, if_neg (by decide)]
  termination_by s t => s.length + t.length
theorem mrg_isort (a : List α) : ∀ (n : Nat) (b : List α), b.length = n → mrg le (isort le a) (isort le b) = isort le (a ++ b)
  | 0, b, h => by
    have : b = [] := List.eq_nil_of_length_eq_zero h
    subst this
    rw [List.append_nil]
    exact mrg_nil_r _
  | n + 1, b, h => by
    have hb : b ≠ [] := fun z => by rw [z] at h; cases h
    obtain ⟨b', x, rfl⟩ : ∃ b' x, b = b' ++ [x] := ⟨b.dropLast, b.getLast hb, (List.dropLast_concat_getLast hb).symm⟩
    have hl : b'.length = n := by simpa using h
    rw [isort_snoc, mrg_ins tr to, mrg_isort a n b' hl, ← List.append_assoc, isort_snoc]
/-! sorted lists -/
abbrev Srt (le : α → α → Bool) (t : List α) : Prop := t.Pairwise fun a b => le a b = true
theorem srt_ins {x : α} : ∀ {t : List α}, Srt le t → Srt le (ins le x t)
  | [], _ => by simp [ins, Srt]
  | y :: t, h => by
    obtain ⟨h1, h2⟩ := List.pairwise_cons.mp h
    unfold ins
    split
    · rename_i hy
      refine List.pairwise_cons.mpr ⟨fun z hz => ?_, srt_ins h2⟩
      rcases mem_ins hz with e | e
      · rw [e]; exact hy
      · exact h1 z e
    · rename_i hy
      have hx : le x y = true := by
        rcases to y x with z | z
        · exact absurd z hy
        · exact z
      refine List.pairwise_cons.mpr ⟨fun z hz => ?_, h⟩
      rcases List.mem_cons.mp hz with e | e
      · rw [e]; exact hx
      · exact tr x y z hx (h1 z e)
theorem srt_isort : ∀ (n : Nat) (xs : List α), xs.length = n → Srt le (isort le xs)
  | 0, b, h => by
    have : b = [] := List.eq_nil_of_length_eq_zero h
    subst this
    exact .nil
  | n + 1, b, h => by
    have hb : b ≠ [] := fun z => by rw [z] at h; cases h
    obtain ⟨b', x, rfl⟩ : ∃ b' x, b = b' ++ [x] := ⟨b.dropLast, b.getLast hb, (List.dropLast_concat_getLast hb).symm⟩
    rw [isort_snoc]
    exact srt_ins tr to (srt_isort n b' (by simpa using h))
theorem plc_none {x y : α} (h : le y x = false) {t : List α} (ht : ∀ z ∈ t, le y z = true) : t.filter (fun z => le z x) = [] := by
  rw [List.filter_eq_nil_iff]
  intro z hz
  intro hzx
  have := tr y z x (ht z hz) hzx
  rw [h] at this
  cases this
theorem ins_plc {x : α} : ∀ {t : List α}, Srt le t → ins le x t = t.take (plc le x t) ++ [x] ++ t.drop (plc le x t)
  | [], _ => rfl
  | y :: t, h => by
    obtain ⟨h1, h2⟩ := List.pairwise_cons.mp h
    cases hy : le y x with
    | true =>
      have e : plc le x (y :: t) = plc le x t + 1 := by simp [plc, hy]
      rw [e, ins, if_pos hy, ins_plc h2]
      simp
    | false =>
      have e : plc le x (y :: t) = 0 := by
        unfold plc
        rw [List.filter_cons, hy]
        simp only [Bool.false_eq_true, if_false]
        rw [plc_none tr to hy h1]
        rfl
      rw [e, ins, hy]
      simp
theorem plc_le {x : α} {t : List α} : plc le x t ≤ t.length := List.length_filter_le _ _
theorem plc_at {x : α} : ∀ {t : List α}, Srt le t → ∀ {j : Nat} {y : α}, t[j]? = some y → (le y x = true ↔ j < plc le x t)
  | [], _, j, y, h => by simp at h
  | z :: t, h, j, y, hj => by
    obtain ⟨h1, h2⟩ := List.pairwise_cons.mp h
    cases hz : le z x with
    | true =>
      have e : plc le x (z :: t) = plc le x t + 1 := by simp [plc, hz]
      cases j with
      | zero =>
        have : z = y := by simpa using hj
        rw [e, ← this]
        simp [hz]
      | succ j =>
        have := plc_at (x := x) h2 (j := j) (y := y) (by simpa using hj)
        rw [e, this]
        omega
    | false =>
      have en := plc_none tr to hz h1
      have e : plc le x (z :: t) = 0 := by
        unfold plc
        rw [List.filter_cons, hz]
        simp only [Bool.false_eq_true, if_false]
        rw [en]
        rfl
      rw [e]
      cases j with
      | zero =>
        have : z = y := by simpa using hj
        rw [← this]
        simp [hz]
      | succ j =>
        have hm : y ∈ t := List.mem_of_getElem? (by simpa using hj)
        have := List.filter_eq_nil_iff.mp en y hm
        simp only [Nat.not_lt_zero, iff_false]
        exact this
end
/-! ### pairs of runs -/
section
variable {α : Type}
def pairUp : List (List α) → List (List α)
  | a :: b :: r => (a ++ b) :: pairUp r
  | [a] => [a]
  | [] => []
theorem pairUp_flat : ∀ cs : List (List α), (pairUp cs).flatten = cs.flatten
  | a :: b :: r => by simp [pairUp, pairUp_flat r]
  | [a] => rfl
  | [] => rfl
theorem pairUp_len : ∀ cs : List (List α), (pairUp cs).length = (cs.length + 1) / 2
  | a :: b :: r => by simp [pairUp, pairUp_len r]; omega
  | [a] => by simp [pairUp]
  | [] => by simp [pairUp]
theorem pairUp_get : ∀ {cs : List (List α)} {i : Nat}, i < (cs.length + 1) / 2 →
    (pairUp cs)[i]? = some (match cs[2 * i]?, cs[2 * i + 1]? with
      | some a, some b => a ++ b
      | some a, none => a
      | _, _ => [])
  | a :: b :: r, 0, _ => by simp [pairUp]
  | a :: b :: r, i + 1, h => by
    have := pairUp_get (cs := r) (i := i) (by simp at h; omega)
    rw [pairUp, List.getElem?_cons_succ, this]
    have e : 2 * (i + 1) = 2 * i + 1 + 1 := by omega
    rw [e]
    simp
  | [a], 0, _ => rfl
  | [a], i + 1, h => by simp at h
  | [], i, h => by simp at h
/-- the pieces of n -/
def chunks (n : Nat) (rows : List α) (m : Nat) : List (List α) := (List.range m).map fun i => (rows.drop (i * n)).take n
theorem chunks_flat {n : Nat} {rows : List α} : ∀ m : Nat, (chunks n rows m).flatten = rows.take (m * n)
  | 0 => by simp [chunks]
  | m + 1 => by
    have ih := chunks_flat (n := n) (rows := rows) m
    unfold chunks at ih ⊢
    rw [List.range_succ, List.map_append, List.flatten_append, ih]
    have e : (m + 1) * n = m * n + n := by rw [Nat.add_mul, Nat.one_mul]
    rw [e, List.take_add]
    simp
end
/-! ### the order of rows -/
def bef : List Bool → List Int → List Int → Bool
  | [], _, _ => false
  | f :: fs, a, b => if a.headD 0 = b.headD 0 then bef fs a.tail b.tail else (decide (a.headD 0 < b.headD 0) != f)
theorem bne2 {a b : Int} {f : Bool} (h : ¬ a = b) : (decide (a < b) != f) = true ∨ (decide (b < a) != f) = true := by
  rcases Int.lt_or_gt_of_ne h with z | z
  · have y : ¬ b < a := by omega
    rw [decide_eq_true z, decide_eq_false y]
    cases f <;> simp
  · have y : ¬ a < b := by omega
    rw [decide_eq_true (show b < a from z), decide_eq_false y]
    cases f <;> simp
theorem bne4 {a b : Int} {f : Bool} (h : ¬ a = b) (h2 : (decide (a < b) != f) = true) : (decide (b < a) != f) = false := by
  rcases Int.lt_or_gt_of_ne h with z | z
  · have y : ¬ b < a := by omega
    rw [decide_eq_true z] at h2
    rw [decide_eq_false y]
    cases f <;> simp_all
  · have y : ¬ a < b := by omega
    rw [decide_eq_false y] at h2
    rw [decide_eq_true (show b < a from z)]
    cases f <;> simp_all
theorem bne3 {z y x : Int} {f : Bool} (h1 : ¬ z = y) (h2 : ¬ y = x) (h : (decide (z < x) != f) = true) : (decide (z < y) != f) = true ∨ (decide (y < x) != f) = true := by
  by_cases a : z < x <;> by_cases b : z < y <;> by_cases c : y < x <;> simp only [decide_eq_true, decide_eq_false, a, b, c, not_false_eq_true, decide_true, decide_false] at h ⊢ <;> first | (exact .inl h) | (exact .inr h) | omega
theorem bef_neg : ∀ (fs : List Bool) (x y z : List Int), bef fs z x = true → bef fs z y = true ∨ bef fs y x = true
  | [], x, y, z, h => by cases h
  | f :: fs, x, y, z, h => by
    unfold bef at h ⊢
    by_cases c1 : z.headD 0 = x.headD 0
    · rw [if_pos c1] at h
      by_cases c2 : z.headD 0 = y.headD 0
      · rw [if_pos c2, if_pos (c2.symm.trans c1)]
        exact bef_neg fs _ _ _ h
      · rw [if_neg c2, if_neg (fun e => c2 (c1.trans e.symm)), ← c1]
        exact bne2 c2
    · rw [if_neg c1] at h
      by_cases c2 : z.headD 0 = y.headD 0
      · right
        rw [if_neg (fun e => c1 (c2.trans e)), ← c2]
        exact h
      · by_cases c3 : y.headD 0 = x.headD 0
        · left
          rw [if_neg c2, c3]
          exact h
        · rw [if_neg c2, if_neg c3]
          exact bne3 c2 c3 h
theorem bef_asym : ∀ (fs : List Bool) (x y : List Int), bef fs x y = true → bef fs y x = false
  | [], x, y, h => by cases h
  | f :: fs, x, y, h => by
    unfold bef at h ⊢
    by_cases c1 : x.headD 0 = y.headD 0
    · rw [if_pos c1] at h
      rw [if_pos c1.symm]
      exact bef_asym fs _ _ h
    · rw [if_neg c1] at h
      rw [if_neg (fun e => c1 e.symm)]
      exact bne4 c1 h
structure Row where
  r : List Int
  k : Int
def leR (fs : List Bool) (x y : Row) : Bool := !bef fs y.r x.r
theorem leR_tr (fs : List Bool) (a b c : Row) (h1 : leR fs a b = true) (h2 : leR fs b c = true) : leR fs a c = true := by
  unfold leR at *
  cases h : bef fs c.r a.r with
  | false => rfl
  | true =>
    rcases bef_neg fs a.r b.r c.r h with z | z
    · rw [z] at h2; cases h2
    · rw [z] at h1; cases h1
theorem leR_to (fs : List Bool) (a b : Row) : leR fs a b = true ∨ leR fs b a = true := by
  unfold leR
  cases h : bef fs b.r a.r with
  | false => exact .inl rfl
  | true => exact .inr (by rw [bef_asym fs _ _ h]; rfl)
end K27


/-! What the defs of k27 compute, over data. -/
namespace K27
open PySem PySem.Spec PyProof.Rows L2 Ts
def tI (a : List Int) : D := .tup (a.map D.int)
def fB (fs : List Bool) : D := .lst (fs.map D.bl)
def Row.d (x : Row) : D := .tup [tI x.r, .tup [.str "row", .int x.k]]
def rowsD (xs : List Row) : D := .lst (xs.map Row.d)
def Len (fs : List Bool) (xs : List Row) : Prop := ∀ x ∈ xs, x.r.length = fs.length
section
variable {K : PySem.W.Frag} {W : WX}
theorem bef_step {f : Bool} {fs : List Bool} {a b : Int} {as bs : List Int} : bef (f :: fs) (a :: as) (b :: bs) = if a = b then bef fs as bs else (decide (a < b) != f) := rfl
theorem drop_at {α : Type} {xs : List α} {i : Nat} {x : α} (h : xs[i]? = some x) : xs.drop i = x :: xs.drop (i + 1) := by
  obtain ⟨hl, e⟩ := List.getElem?_eq_some_iff.mp h
  rw [List.drop_eq_getElem_cons hl, e]
theorem get_ex {α : Type} {xs : List α} {i : Nat} (h : i < xs.length) : ∃ x, xs[i]? = some x := ⟨_, List.getElem?_eq_getElem h⟩
theorem map_get {α β : Type} {f : α → β} {xs : List α} {i : Nat} {x : α} (h : xs[i]? = some x) : (xs.map f)[i]? = some (f x) := by rw [List.getElem?_map, h]; rfl
theorem of_map_get {α β : Type} {f : α → β} {xs : List α} {i : Nat} {y : β} (h : (xs.map f)[i]? = some y) : ∃ x, xs[i]? = some x ∧ y = f x := by
  rw [List.getElem?_map] at h
  cases e : xs[i]? with
  | none => rw [e] at h; cases h
  | some x =>
    rw [e] at h
    exact ⟨x, rfl, (Option.some.inj h).symm⟩
theorem then_nx {u : TS} {Δ : En} {post : Out → Prop} (h : Xs K W u Δ post) : thenP K W u post (.nx Δ) := h
/-! ### ordered_pair, _law_before -/
def pPre : List D → Prop := fun ds => ∃ (a b : List Int) (fs : List Bool), ds = [tI a, tI b, fB fs] ∧ a.length = fs.length ∧ b.length = fs.length
def opPost : List D → Res → Prop := fun ds r => ∃ (a b : List Int) (fs : List Bool), ds = [tI a, tI b, fB fs] ∧ r = .ret (.bl (!bef fs b a))
def beP : List D → Res → Prop := fun ds r => ∃ (a b : List Int) (fs : List Bool), ds = [tI a, tI b, fB fs] ∧ r = .ret (.bl (bef fs a b))
theorem op_xs {ds : List D} (h : pPre ds) : Xs K W (t_ordered_pair K W) (argsE N_ordered_pair ds) (fnP opPost ds) := by
  obtain ⟨a, b, fs, rfl, ha, hb⟩ := h
  refine xs_seq (xs1_for (items := enumD (fs.map D.bl)) (ew_enum ((ev_var (d := fB fs) rfl).imp fun d e => ⟨_, e, rfl⟩)) (fun i Δ' => (∃ x y, Δ' = [.dat (tI a), .dat (tI b), .dat (fB fs), x, y]) ∧ bef fs b a = bef (fs.drop i) (b.drop i) (a.drop i)) ⟨⟨_, _, rfl⟩, by simp⟩ ?_ ?_)
  · rintro i d Δ' hd ⟨⟨x, y, rfl⟩, hi⟩
    obtain ⟨d', hd', rfl⟩ := enumD_of hd
    obtain ⟨f, hf, rfl⟩ := of_map_get hd'
    have hlt := (List.getElem?_eq_some_iff.mp hf).1
    obtain ⟨u, hu⟩ := get_ex (xs := a) (i := i) (by omega)
    obtain ⟨v, hv⟩ := get_ex (xs := b) (i := i) (by omega)
    rw [drop_at hf, drop_at hu, drop_at hv, bef_step] at hi
    refine ⟨[3, 4], _, tg2, ?_⟩
    have e1 : ∀ {Δ : En}, Δ[0]? = some (Sl.dat (tI a)) → Δ[3]? = some (Sl.dat (.int (i : Int))) → Ev K (WE W) (tOp (rIx K) (tVar 0) (tVar 3)) Δ (· = .int u) fun _ => False := fun h1 h2 => ev1_op (ev_var h1) (ev_var h2) (od_ixT (atI_nat (map_get hu)))
    have e2 : ∀ {Δ : En}, Δ[1]? = some (Sl.dat (tI b)) → Δ[3]? = some (Sl.dat (.int (i : Int))) → Ev K (WE W) (tOp (rIx K) (tVar 1) (tVar 3)) Δ (· = .int v) fun _ => False := fun h1 h2 => ev1_op (ev_var h1) (ev_var h2) (od_ixT (atI_nat (map_get hv)))
    refine xs1_if (et1_val (ev1_op (e1 rfl rfl) (e2 rfl rfl) od_neI)) (fun h => ?_) fun h => xs_next ⟨⟨_, _, rfl⟩, ?_⟩
    · have ne : ¬ u = v := by simpa using h
      refine xs1_ret (ev1_op (ev1_op (e1 rfl rfl) (e2 rfl rfl) od_lt) (ev_var rfl) od_neB) ⟨a, b, fs, rfl, ?_⟩
      rw [hi, if_neg (fun e => ne e.symm)]
      congr 2
      rcases Int.lt_or_gt_of_ne ne with z | z
      · rw [decide_eq_true z, decide_eq_false (show ¬ v < u by omega)]
        cases f <;> rfl
      · rw [decide_eq_false (show ¬ u < v by omega), decide_eq_true (show v < u from z)]
        cases f <;> rfl
    · have eq : u = v := by simpa using h
      rw [hi, if_pos eq.symm]
  · rintro Δ' ⟨⟨x, y, rfl⟩, hi⟩
    refine xs1_ret ev_bl ⟨a, b, fs, rfl, ?_⟩
    rw [hi, enumD_len, List.length_map, List.drop_of_length_le (Nat.le_refl _)]
    rfl
theorem be_xs {ds : List D} (h : pPre ds) : Xs K W (t__law_before K W) (argsE N__law_before ds) (fnP beP ds) := by
  obtain ⟨a, b, fs, rfl, ha, hb⟩ := h
  refine xs_seq (xs1_for (items := zip3D (a.map D.int) (b.map D.int) (fs.map D.bl)) (ew_zip3 (da := tI a) (db := tI b) (dc := fB fs) (ea1_cons (ev_var rfl) (ea1_cons (ev_var rfl) (ea1_cons (ev_var rfl) ea_nil))) rfl rfl rfl) (fun i Δ' => (∃ x y z, Δ' = [.dat (tI a), .dat (tI b), .dat (fB fs), x, y, z]) ∧ bef fs a b = bef (fs.drop i) (a.drop i) (b.drop i)) ⟨⟨_, _, _, rfl⟩, by simp⟩ ?_ ?_)
  · rintro i d Δ' hd ⟨⟨x, y, z, rfl⟩, hi⟩
    obtain ⟨d1, d2, d3, h1, h2, h3, rfl⟩ := zip3D_of hd
    obtain ⟨u, hu, rfl⟩ := of_map_get h1
    obtain ⟨v, hv, rfl⟩ := of_map_get h2
    obtain ⟨f, hf, rfl⟩ := of_map_get h3
    rw [drop_at hf, drop_at hu, drop_at hv, bef_step] at hi
    refine ⟨[3, 4, 5], _, tg3, ?_⟩
    refine xs1_if (et1_val (ev1_op (ev_var (d := .int u) rfl) (ev_var (d := .int v) rfl) od_neI)) (fun h => ?_) fun h => xs_next ⟨⟨_, _, _, rfl⟩, ?_⟩
    · have ne : ¬ u = v := by simpa using h
      refine xs1_ret (ev1_op (ev1_op (ev_var (d := .int u) rfl) (ev_var (d := .int v) rfl) od_lt) (ev_var (d := .bl f) rfl) od_neB) ⟨a, b, fs, rfl, ?_⟩
      rw [hi, if_neg ne]
    · have eq : u = v := by simpa using h
      rw [hi, if_pos eq]
  · rintro Δ' ⟨⟨x, y, z, rfl⟩, hi⟩
    refine xs1_ret ev_bl ⟨a, b, fs, rfl, ?_⟩
    rw [hi, zip3D_len, List.length_map, List.length_map, List.length_map]
    have e : min a.length (min b.length fs.length) = fs.length := by omega
    rw [e, List.drop_of_length_le (Nat.le_refl _)]
    rfl
/-! ### run_count -/
def rcPre : List D → Prop := fun ds => ∃ n l : Nat, ds = [.int n, .int l] ∧ 0 < l ∧ l < 2 ^ 29
def rcPost : List D → Res → Prop := fun ds r => ∃ n l : Nat, ds = [.int n, .int l] ∧ r = .ret (.int ((n + l - 1) / l : Nat))
theorem rc_xs {ds : List D} (h : rcPre ds) : Xs K W (t_run_count K W) (argsE N_run_count ds) (fnP rcPost ds) := by
  obtain ⟨n, l, rfl, h1, h2⟩ := h
  refine xs1_ret (ev1_op (ev1_op (ev1_op (ev_var rfl) (ev_var rfl) od_add) ev_int od_sub) (ev_var rfl) (od_div (cdivw (by omega) (by omega)))) ⟨n, l, rfl, ?_⟩
  rw [Int.natCast_ediv, Int.ofNat_sub (by omega)]
  rfl
/-! ### sorting -/
def sPre : List D → Prop := fun ds => ∃ (xs : List Row) (fs : List Bool), ds = [rowsD xs, fB fs] ∧ Len fs xs ∧ xs.length ≤ 1000
def sPost : List D → Res → Prop := fun ds r => ∃ (xs : List Row) (fs : List Bool), ds = [rowsD xs, fB fs] ∧ r = .ret (rowsD (isort (leR fs) xs))
abbrev spOp (K : PySem.W.Frag) : Sp := spD K pPre opPost
abbrev spBe (K : PySem.W.Frag) : Sp := spD K pPre beP
theorem map_inj {α β : Type} {f : α → β} (hf : ∀ a b, f a = f b → a = b) : ∀ {x y : List α}, x.map f = y.map f → x = y
  | [], [], _ => rfl
  | [], _ :: _, h => by cases h
  | _ :: _, [], h => by cases h
  | a :: x, b :: y, h => by
    rw [List.map_cons, List.map_cons] at h
    injection h with h1 h2
    rw [hf a b h1, map_inj hf h2]
theorem inj_p {a b a' b' : List Int} {fs fs' : List Bool} (h : [tI a, tI b, fB fs] = [tI a', tI b', fB fs']) : a = a' ∧ b = b' ∧ fs = fs' := by
  have inj1 : ∀ {x y : List Int}, x.map D.int = y.map D.int → x = y := fun {x y} h => map_inj (fun _ _ e => by cases e; rfl) h
  have inj2 : ∀ {x y : List Bool}, x.map D.bl = y.map D.bl → x = y := fun {x y} h => map_inj (fun _ _ e => by cases e; rfl) h
  injection h with h1 h
  injection h with h2 h
  injection h with h3 _
  injection h1 with h1
  injection h2 with h2
  injection h3 with h3
  exact ⟨inj1 h1, inj1 h2, inj2 h3⟩
section
variable {E : L2.St → XK} {Δ : En} {X : Addr → Prop} {ta tb tc : TE} {a b : List Int} {fs : List Bool}
theorem ev_op_ (h1 : Ev K E ta Δ (· = tI a) X) (h2 : Ev K E tb Δ (· = tI b) X) (h3 : Ev K E tc Δ (· = fB fs) X) (ha : a.length = fs.length) (hb : b.length = fs.length) : Ev K E (tCallS (spOp K) E (tCons ta (tCons tb (tCons tc tNil)))) Δ (· = .bl (!bef fs b a)) X :=
  ev1_call (ea1_cons h1 (ea1_cons h2 (ea1_cons h3 ea_nil))) ⟨a, b, fs, rfl, ha, hb⟩ (fun e ⟨a', b', fs', h, r⟩ => by
    obtain ⟨rfl, rfl, rfl⟩ := inj_p h
    injection r) fun C ⟨_, _, _, _, z⟩ => nomatch z
theorem ev_be_ (h1 : Ev K E ta Δ (· = tI a) X) (h2 : Ev K E tb Δ (· = tI b) X) (h3 : Ev K E tc Δ (· = fB fs) X) (ha : a.length = fs.length) (hb : b.length = fs.length) : Ev K E (tCallS (spBe K) E (tCons ta (tCons tb (tCons tc tNil)))) Δ (· = .bl (bef fs a b)) X :=
  ev1_call (ea1_cons h1 (ea1_cons h2 (ea1_cons h3 ea_nil))) ⟨a, b, fs, rfl, ha, hb⟩ (fun e ⟨a', b', fs', h, r⟩ => by
    obtain ⟨rfl, rfl, rfl⟩ := inj_p h
    injection r) fun C ⟨_, _, _, _, z⟩ => nomatch z
/-- row[0] -/
theorem ev_r {x : Row} (h : Ev K E ta Δ (· = x.d) X) : Ev K E (tOp (rIx K) ta (tC (.int 0))) Δ (· = tI x.r) X := ev1_op h ev_int (od_ixT rfl)
end
theorem take_at {α : Type} {xs : List α} {i : Nat} {x : α} (h : xs[i]? = some x) : xs.take (i + 1) = xs.take i ++ [x] := by rw [List.take_add_one, h]; rfl
theorem len_isort {fs : List Bool} {xs : List Row} (h : Len fs xs) (i : Nat) : Len fs (isort (leR fs) (xs.take i)) := fun x hx => h x (List.mem_of_mem_take (mem_isort hx))
theorem ls_xs {ds : List D} (h : sPre ds) : Xs K W (t__law_sorted K W (spBe K)) (argsE N__law_sorted ds) (fnP sPost ds) := by
  obtain ⟨xs, fs, rfl, hl, hn⟩ := h
  refine xs_seq (xs1_asg (d := .lst []) (ev1_lst ea_nil) ?_)
  refine xs_seq (xs1_for (items := xs.map Row.d) (ew_inl (ew_list ((ev_var (d := rowsD xs) rfl).imp fun d e => ⟨_, e, rfl⟩))) (fun i Δ' => ∃ x y z, Δ' = [.dat (rowsD xs), .dat (fB fs), .dat (rowsD (isort (leR fs) (xs.take i))), x, y, z]) ⟨_, _, _, rfl⟩ ?_ ?_)
  · rintro i d Δ' hd ⟨x, y, z, rfl⟩
    obtain ⟨row, hrow, rfl⟩ := of_map_get hd
    refine ⟨[3], _, tg_name, ?_⟩
    let t := isort (leR fs) (xs.take i)
    have ht : t.length ≤ 1000 := by rw [isort_len, List.length_take]; omega
    have hs : Srt (leR fs) t := srt_isort (leR_tr fs) (leR_to fs) _ _ rfl
    have hp : plc (leR fs) row t ≤ t.length := plc_le (leR_tr fs) (leR_to fs)
    have hr : row.r.length = fs.length := hl row (List.mem_of_getElem? hrow)
    refine xs_seq (xs1_asg (d := .int (plc (leR fs) row t : Nat)) ?_ ?_)
    · refine ev_is (ev1_cb (ds := [.lst (List.replicate (plc (leR fs) row t) (D.int 1))]) (ea1_cons ?_ ea_nil) cd_lenL) (by rw [List.length_replicate])
      refine ev_lc (Rw := (· = t.map Row.d)) (ew_inl (ew_list ((ev_var (d := rowsD t) rfl).imp fun d e => ⟨_, e, rfl⟩))) (fun _ j acc => acc = List.replicate (plc (leR fs) row (t.take j)) (D.int 1)) (fun _ _ => rfl) (fun items j d acc ei hj ea => ?_) fun items acc ei ea => ?_
      · subst ei
        obtain ⟨one, hone, rfl⟩ := of_map_get hj
        have ho : one.r.length = fs.length := len_isort hl i one (List.mem_of_getElem? hone)
        refine ⟨[5], _, by simp, tg_name, ?_⟩
        have e : plc (leR fs) row (t.take (j + 1)) = plc (leR fs) row (t.take j) + if leR fs one row = true then 1 else 0 := by
          unfold plc
          rw [take_at hone, List.filter_append, List.length_append]
          congr 1
          cases hq : leR fs one row <;> simp [hq]
        refine (et1_not (et1_B (ev_be_ (ev_r (x := row) (ev_var rfl)) (ev_r (x := one) (ev_var rfl)) (ev_var rfl) hr ho))).imp fun b eb => ⟨fun hb => ?_, fun hb => ?_⟩
        · have hb' : leR fs one row = true := by rw [← hb, eb]; rfl
          refine ev_int.imp fun d ed => ⟨?_, ?_⟩
          · rw [ea, List.length_replicate]
            have : plc (leR fs) row (t.take j) ≤ (t.take j).length := plc_le (leR_tr fs) (leR_to fs)
            have : (t.take j).length ≤ t.length := by rw [List.length_take]; omega
            exact szlt (by omega)
          · rw [ea, ed, e, hb', if_pos rfl, List.replicate_succ']
        · have hb' : leR fs one row = false := by rw [← hb, eb]; rfl
          rw [ea, e, hb']
          rfl
      · subst ei
        rw [ea, List.length_map, List.take_length]
    · have hL : (t.map Row.d).length ≤ 1000 := by rw [List.length_map]; exact ht
      have ei : isort (leR fs) (xs.take (i + 1)) = ins (leR fs) row t := by rw [take_at hrow, isort_snoc]
      refine then_nx ?_
      refine xs1_asg (d := rowsD (ins (leR fs) row t)) (ev_is (ev1_op (ev1_op (ev1_sl (ev_var (d := rowsD t) rfl) eo_none (eo1_some (ev_var (d := .int (plc (leR fs) row t : Nat)) rfl)) sd_lst) (ev1_lst (ea1_cons (ev_var (d := row.d) rfl) ea_nil)) (od_catL ?_)) (ev1_sl (ev_var (d := rowsD t) rfl) (eo1_some (ev_var (d := .int (plc (leR fs) row t : Nat)) rfl)) eo_none sd_lst) (od_catL ?_)) ?_) ?_
      · rw [cutD_to]
        refine szl ?_
        simp only [List.length_take, List.length_cons, List.length_nil]
        omega
      · rw [cutD_to, cutD_from]
        refine szl ?_
        simp only [List.length_append, List.length_take, List.length_cons, List.length_nil, List.length_drop]
        omega
      · rw [cutD_to, cutD_from, ins_plc (leR_tr fs) (leR_to fs) hs]
        show D.lst _ = D.lst _
        congr 1
        rw [List.map_append, List.map_append, List.map_take, List.map_drop]
        rfl
      · rw [ei]
        exact ⟨_, _, _, rfl⟩
  · rintro Δ' ⟨x, y, z, rfl⟩
    refine xs1_ret (ev_var rfl) ⟨xs, fs, rfl, ?_⟩
    rw [List.length_map, List.take_length]
theorem sr_xs {ds : List D} (h : sPre ds) : Xs K W (t_sorted_run K W (spOp K)) (argsE N_sorted_run ds) (fnP sPost ds) := by
  obtain ⟨xs, fs, rfl, hl, hn⟩ := h
  refine xs_seq (xs_new0 ?_)
  refine xs_seq (xs1_for (items := xs.map Row.d) (ew_inl (ew_list ((ev_var (d := rowsD xs) rfl).imp fun d e => ⟨_, e, rfl⟩))) (fun i Δ' => ∃ x y, Δ' = [.dat (rowsD xs), .dat (fB fs), .own ((isort (leR fs) (xs.take i)).map Row.d), x, y]) ⟨_, _, rfl⟩ ?_ ?_)
  · rintro i d Δ' hd ⟨x, y, rfl⟩
    obtain ⟨row, hrow, rfl⟩ := of_map_get hd
    refine ⟨[3], _, tg_name, ?_⟩
    have ht : (isort (leR fs) (xs.take i)).length ≤ 1000 := by rw [isort_len, List.length_take]; omega
    have hs : Srt (leR fs) (isort (leR fs) (xs.take i)) := srt_isort (leR_tr fs) (leR_to fs) _ _ rfl
    have hls := len_isort hl i
    have ei : isort (leR fs) (xs.take (i + 1)) = ins (leR fs) row (isort (leR fs) (xs.take i)) := by rw [take_at hrow, isort_snoc]
    rw [ei]
    generalize isort (leR fs) (xs.take i) = t at *
    have hp : plc (leR fs) row t ≤ t.length := plc_le (leR_tr fs) (leR_to fs)
    have hr : row.r.length = fs.length := hl row (List.mem_of_getElem? hrow)
    refine xs_seq (xs1_asg (d := .int t.length) (ev_is (ev_len_own (ds := t.map Row.d) rfl) (by rw [List.length_map])) ?_)
    refine then_nx ?_
    refine xs_seq (xs_while (fun m Δ' => plc (leR fs) row t ≤ m ∧ m ≤ t.length ∧ Δ' = [.dat (rowsD xs), .dat (fB fs), .own (t.map Row.d), .dat row.d, .dat (.int m)]) t.length ⟨hp, Nat.le_refl _, rfl⟩ ?_)
    rintro m Δ' ⟨h1, h2, rfl⟩
    refine ⟨(· = decide (plc (leR fs) row t < m)), fun _ => False, ?_, fun _ z => z.elim, fun hb => ?_, fun hb => ?_⟩
    · refine et_is (et1_and (b := decide (plc (leR fs) row t < m)) (et1_val (ev1_op (ev_var (d := .int m) rfl) ev_int od_gt)) fun hm => ?_) ?_
      · have hm0 : 0 < m := by simpa using hm
        obtain ⟨one, hone⟩ := get_ex (xs := t) (i := m - 1) (by omega)
        have ho : one.r.length = fs.length := hls one (List.mem_of_getElem? hone)
        have hpl := plc_at (leR_tr fs) (leR_to fs) (x := row) hs hone
        have ix : Ev K (WE W) (tOp (rIx K) (tVar 2) (tOp rSubG (tVar 4) (tC (.int 1)))) [.dat (rowsD xs), .dat (fB fs), .own (t.map Row.d), .dat row.d, .dat (.int m)] (· = one.d) fun _ => False := by
          refine ev_ix_own (j := (m : Int) - 1) rfl (ev1_op (ev_var rfl) ev_int od_sub) ?_
          have : (m : Int) - 1 = ((m - 1 : Nat) : Int) := by omega
          rw [this]
          exact atI_nat (map_get hone)
        refine et_is (et1_not (et1_B (ev_op_ (ev_r ix) (ev_r (x := row) (ev_var rfl)) (ev_var rfl) ho hr))) ?_
        have : (!bef fs row.r one.r) = leR fs one row := rfl
        rw [this]
        cases hle : leR fs one row with
        | true =>
          have := hpl.mp hle
          rw [decide_eq_false (by omega)]; rfl
        | false =>
          have : ¬ (m - 1 < plc (leR fs) row t) := fun z => by
            have := hpl.mpr z
            rw [hle] at this; cases this
          rw [decide_eq_true (by omega)]; rfl
      · by_cases c : plc (leR fs) row t < m
        · rw [decide_eq_true c, decide_eq_true (show (0 : Int) < m by omega)]; rfl
        · rw [decide_eq_false c, Bool.and_false]
    · have hb' : plc (leR fs) row t < m := of_decide_eq_true hb.symm
      refine xs1_aug (x := .int m) rfl ev_int isu ⟨m - 1, by omega, by omega, by omega, ?_⟩
      have : (m : Int) - 1 = ((m - 1 : Nat) : Int) := by omega
      rw [this]; rfl
    · have hb' : ¬ plc (leR fs) row t < m := of_decide_eq_false hb.symm
      have em : m = plc (leR fs) row t := by omega
      subst em
      refine then_nx ?_
      refine xs_ins (j := ((plc (leR fs) row t : Nat) : Int)) (d := row.d) rfl (szlt (by rw [List.length_map]; omega)) (ev_var rfl) (ev_var rfl) (by omega) (by omega) ?_
      refine ⟨.dat row.d, .dat (.int (plc (leR fs) row t : Nat)), ?_⟩
      rw [ins_plc (leR_tr fs) (leR_to fs) hs, List.map_append, List.map_append, List.map_take, List.map_drop]
      rfl
  · rintro Δ' ⟨x, y, rfl⟩
    refine xs_ret_own rfl ⟨xs, fs, rfl, ?_⟩
    rw [List.length_map, List.take_length]
    rfl
/-! ### merged_pair -/
def mPre : List D → Prop := fun ds => ∃ (s t : List Row) (fs : List Bool), ds = [rowsD s, rowsD t, fB fs] ∧ Len fs s ∧ Len fs t ∧ s.length ≤ 1000 ∧ t.length ≤ 1000
def mPost : List D → Res → Prop := fun ds r => ∃ (s t : List Row) (fs : List Bool), ds = [rowsD s, rowsD t, fB fs] ∧ r = .ret (rowsD (mrg (leR fs) s t))
theorem mp_xs {ds : List D} (h : mPre ds) : Xs K W (t_merged_pair K W (spOp K)) (argsE N_merged_pair ds) (fnP mPost ds) := by
  obtain ⟨s, t, fs, rfl, h1, h2, n1, n2⟩ := h
  refine xs_seq (xs1_par30 ev_int ev_int ?_)
  refine xs_seq (xs_while (fun m Δ' => ∃ (i j : Nat) (acc : List Row), Δ' = [.dat (rowsD s), .dat (rowsD t), .dat (fB fs), .own (acc.map Row.d), .dat (.int i), .dat (.int j)] ∧ i ≤ s.length ∧ j ≤ t.length ∧ acc.length = i + j ∧ mrg (leR fs) s t = acc ++ mrg (leR fs) (s.drop i) (t.drop j) ∧ m = (s.length - i) + (t.length - j)) _ ⟨0, 0, [], rfl, Nat.zero_le _, Nat.zero_le _, rfl, rfl, rfl⟩ ?_)
  rintro m Δ' ⟨i, j, acc, rfl, hi, hj, ha, hm, rfl⟩
  refine ⟨(· = (decide ((i : Int) < s.length) && decide ((j : Int) < t.length))), fun _ => False, ?_, fun _ z => z.elim, fun hb => ?_, fun hb => ?_⟩
  · refine et1_and (et1_val (ev1_op (ev_var (d := .int i) rfl) (ev_is (ev1_cb (ea1_cons (ev_var (d := rowsD s) rfl) ea_nil) cd_lenL) ?_) od_lt)) fun _ => et1_val (ev1_op (ev_var (d := .int j) rfl) (ev_is (ev1_cb (ea1_cons (ev_var (d := rowsD t) rfl) ea_nil) cd_lenL) ?_) od_lt)
    · rw [List.length_map]
    · rw [List.length_map]
  · obtain ⟨b1, b2⟩ := Bool.and_eq_true_iff.mp hb.symm
    have c1 : i < s.length := by have := of_decide_eq_true b1; omega
    have c2 : j < t.length := by have := of_decide_eq_true b2; omega
    obtain ⟨x, hx⟩ := get_ex c1
    obtain ⟨y, hy⟩ := get_ex c2
    have hxl := h1 x (List.mem_of_getElem? hx)
    have hyl := h2 y (List.mem_of_getElem? hy)
    have ix : ∀ {Δ : En}, Δ[0]? = some (Sl.dat (rowsD s)) → Δ[4]? = some (Sl.dat (.int (i : Int))) → Ev K (WE W) (tOp (rIx K) (tVar 0) (tVar 4)) Δ (· = x.d) fun _ => False := fun a b => ev1_op (ev_var a) (ev_var b) (od_ixL (atI_nat (map_get hx)))
    have iy : ∀ {Δ : En}, Δ[1]? = some (Sl.dat (rowsD t)) → Δ[5]? = some (Sl.dat (.int (j : Int))) → Ev K (WE W) (tOp (rIx K) (tVar 1) (tVar 5)) Δ (· = y.d) fun _ => False := fun a b => ev1_op (ev_var a) (ev_var b) (od_ixL (atI_nat (map_get hy)))
    rw [drop_at hx, drop_at hy, mrg] at hm
    have hsz : (acc.map Row.d).length < sizeLine := szlt (by rw [List.length_map]; omega)
    refine xs1_if (et1_B (ev_op_ (ev_r (ix rfl rfl)) (ev_r (iy rfl rfl)) (ev_var rfl) hxl hyl)) (fun hb => ?_) fun hb => ?_
    · have hb' : leR fs x y = true := hb
      rw [if_pos hb'] at hm
      refine xs_seq (xs1_app rfl hsz (ix rfl rfl) ?_)
      refine then_nx ?_
      refine xs1_aug (x := .int i) rfl ev_int iad ?_
      refine ⟨_, ?_, i + 1, j, acc ++ [x], ?_, c1, hj, ?_, ?_, rfl⟩
      · omega
      · rw [List.map_append]; rfl
      · rw [List.length_append, ha]; simp; omega
      · rw [hm, drop_at hy]; simp
    · have hb' : leR fs x y = false := hb
      rw [hb', if_neg (by decide)] at hm
      refine xs_seq (xs1_app rfl hsz (iy rfl rfl) ?_)
      refine then_nx ?_
      refine xs1_aug (x := .int j) rfl ev_int iad ?_
      refine ⟨_, ?_, i, j + 1, acc ++ [y], ?_, hi, c2, ?_, ?_, rfl⟩
      · omega
      · rw [List.map_append]; rfl
      · rw [List.length_append, ha]; simp; omega
      · rw [hm, drop_at hx]; simp
  · have hor : i = s.length ∨ j = t.length := by
      have hb' := hb.symm
      rw [Bool.and_eq_false_iff] at hb'
      rcases hb' with z | z
      · have := of_decide_eq_false z; left; omega
      · have := of_decide_eq_false z; right; omega
    have hm2 : mrg (leR fs) s t = acc ++ s.drop i ++ t.drop j := by
      rw [hm]
      rcases hor with z | z
      · rw [z, List.drop_of_length_le (Nat.le_refl _)]
        simp [mrg]
      · rw [z, List.drop_of_length_le (Nat.le_refl t.length), mrg_nil_r]
        simp
    refine xs_freeze (i := 3) rfl (xs1_ret (ev_is (ev1_op (ev1_op (ev_var (d := .lst (acc.map Row.d)) rfl) (ev1_sl (ev_var (d := rowsD s) rfl) (eo1_some (ev_var (d := .int i) rfl)) eo_none sd_lst) (od_catL ?_)) (ev1_sl (ev_var (d := rowsD t) rfl) (eo1_some (ev_var (d := .int j) rfl)) eo_none sd_lst) (od_catL ?_)) (d' := rowsD (mrg (leR fs) s t)) ?_) ⟨s, t, fs, rfl, rfl⟩)
    · rw [cutD_from]
      refine szl ?_
      simp only [List.length_drop, List.length_map]
      omega
    · rw [cutD_from, cutD_from]
      refine szl ?_
      simp only [List.length_drop, List.length_map, List.length_append]
      omega
    · rw [cutD_from, cutD_from, hm2]
      show D.lst _ = D.lst _
      congr 1
      rw [List.map_append, List.map_append, List.map_drop, List.map_drop]
end
end K27


namespace K27
open PySem PySem.Spec PyProof.Rows L2 Ts
section
variable {K : PySem.W.Frag} {W : WX}
abbrev spLs (K : PySem.W.Frag) : Sp := spD K sPre sPost
abbrev spMp (K : PySem.W.Frag) : Sp := spD K mPre mPost
abbrev spRc (K : PySem.W.Frag) : Sp := spD K rcPre rcPost
theorem inj_rows {xs ys : List Row} (h : rowsD xs = rowsD ys) : xs = ys := by
  injection h with h
  refine map_inj (fun a b e => ?_) h
  injection e with e
  injection e with e1 e
  injection e with e2 _
  injection e1 with e1
  injection e2 with e2
  injection e2 with _ e2
  injection e2 with e2 _
  injection e2 with e2
  obtain ⟨ar, ak⟩ := a
  obtain ⟨br, bk⟩ := b
  have := map_inj (fun _ _ e => by cases e; rfl) e1
  dsimp only at this e2
  rw [this, e2]
theorem inj_fB {fs gs : List Bool} (h : fB fs = fB gs) : fs = gs := by
  injection h with h
  exact map_inj (fun _ _ e => by cases e; rfl) h
section
variable {E : L2.St → XK} {Δ : En} {X : Addr → Prop} {ta tb tc : TE} {xs s t : List Row} {fs : List Bool}
theorem ev_ls (h1 : Ev K E ta Δ (· = rowsD xs) X) (h2 : Ev K E tb Δ (· = fB fs) X) (hl : Len fs xs) (hn : xs.length ≤ 1000) : Ev K E (tCallS (spLs K) E (tCons ta (tCons tb tNil))) Δ (· = rowsD (isort (leR fs) xs)) X :=
  ev1_call (ea1_cons h1 (ea1_cons h2 ea_nil)) ⟨xs, fs, rfl, hl, hn⟩ (fun e ⟨a', b', h, r⟩ => by
    injection h with h1 h
    injection h with h2 _
    rw [inj_rows h1, inj_fB h2]
    injection r) fun C ⟨_, _, _, z⟩ => nomatch z
theorem ev_mp (h1 : Ev K E ta Δ (· = rowsD s) X) (h2 : Ev K E tb Δ (· = rowsD t) X) (h3 : Ev K E tc Δ (· = fB fs) X) (l1 : Len fs s) (l2 : Len fs t) (n1 : s.length ≤ 1000) (n2 : t.length ≤ 1000) : Ev K E (tCallS (spMp K) E (tCons ta (tCons tb (tCons tc tNil)))) Δ (· = rowsD (mrg (leR fs) s t)) X :=
  ev1_call (ea1_cons h1 (ea1_cons h2 (ea1_cons h3 ea_nil))) ⟨s, t, fs, rfl, l1, l2, n1, n2⟩ (fun e ⟨a', b', c', h, r⟩ => by
    injection h with h1 h
    injection h with h2 h
    injection h with h3 _
    rw [inj_rows h1, inj_rows h2, inj_fB h3]
    injection r) fun C ⟨_, _, _, _, z⟩ => nomatch z
end
theorem all_map_ok {α : Type} {f : α → D} {n : Nat} {xs : List α} (h : ∀ x ∈ xs, okN n (f x) = true) : (xs.map f).all (okN n) = true := by
  rw [List.all_eq_true]
  intro d hd
  obtain ⟨x, hx, rfl⟩ := List.mem_map.mp hd
  exact h x hx
theorem tI_ok {n : Nat} (a : List Int) : okN (n + 1) (tI a) = true := by
  show (a.map D.int).all (okN n) = true
  exact all_map_ok fun x _ => by cases n <;> rfl
theorem row_ok {n : Nat} (x : Row) : okN (n + 2) x.d = true := by
  show ([tI x.r, .tup [.str "row", .int x.k]] : List D).all (okN (n + 1)) = true
  have e : okN (n + 1) (.tup [.str "row", .int x.k]) = true := by
    show ([.str "row", .int x.k] : List D).all (okN n) = true
    have e0 : okN n (.str "row") = true := by
      have : PyData.strOk "row" = true := by decide +kernel
      cases n <;> exact this
    have e1 : okN n (.int x.k) = true := by cases n <;> rfl
    rw [List.all_cons, e0, List.all_cons, e1]
    rfl
  rw [List.all_cons, tI_ok, List.all_cons, e]
  rfl
theorem rows_okN {n : Nat} (xs : List Row) : okN (n + 3) (rowsD xs) = true := all_map_ok (n := n + 2) fun x _ => row_ok x
theorem rows_ok (xs : List Row) : (rowsD xs).ok = true := okN_ok (n := 3) (rows_okN (n := 0) xs)
/-! ### sort_rows -/
def runsD (fs : List Bool) (cs : List (List Row)) : D := .lst (cs.map fun c => rowsD (isort (leR fs) c))
theorem runs_ok (fs : List Bool) (cs : List (List Row)) : (runsD fs cs).ok = true := okN_ok (n := 4) (all_map_ok (n := 3) fun c _ => rows_okN (n := 0) _)
def soPre : List D → Prop := fun ds => ∃ (xs : List Row) (fs : List Bool) (l : Int), ds = [rowsD xs, fB fs, .int l] ∧ Len fs xs ∧ xs.length ≤ 1000 ∧ l < 2 ^ 29
def soPost (CS : Addr) : List D → Res → Prop := fun ds r => ∃ (xs : List Row) (fs : List Bool) (l : Int), ds = [rowsD xs, fB fs, .int l] ∧ ((l < 1 ∧ r = .exc CS) ∨ (1 ≤ l ∧ r = .ret (rowsD (isort (leR fs) xs))))
abbrev spSo (K : PySem.W.Frag) : Sp := spD K soPre (soPost (He.ga K "PlanFault"))
theorem mapIdx_rng {f : Nat → D → D} {g : Nat → D} {lo c : Int} {n : Nat} (h : ∀ i d, i < n → f i d = g i) : (rngD lo c n).mapIdx f = (List.range n).map g := by
  refine List.ext_getElem? fun i => ?_
  rw [List.getElem?_mapIdx, List.getElem?_map]
  by_cases hi : i < n
  · rw [rngD_get hi, List.getElem?_range hi]
    exact congrArg some (h i _ hi)
  · rw [List.getElem?_eq_none (by rw [rngD_len]; omega), List.getElem?_eq_none (by rw [List.length_range]; omega)]
    rfl
theorem so_xs {ds : List D} (h : soPre ds) : Xs K W (t_sort_rows K W (spMp K) (spLs K)) (argsE N_sort_rows ds) (fnP (soPost (He.ga K "PlanFault")) ds) := by
  obtain ⟨xs, fs, l, rfl, hl, hn, hl2⟩ := h
  refine xs_seq (xs1_if (et1_val (ev1_op (ev_var (d := .int l) rfl) ev_int od_lt)) (fun hb => ?_) fun hb => xs_next ?_)
  · exact xs_raise ⟨xs, fs, l, rfl, .inl ⟨of_decide_eq_true hb, rfl⟩⟩
  have hl1 : 1 ≤ l := by
    have := of_decide_eq_false hb
    omega
  obtain ⟨L, rfl⟩ : ∃ L : Nat, l = L := ⟨l.toNat, by omega⟩
  have hL0 : 0 < L := by omega
  have hL2 : L < 2 ^ 29 := by omega
  have hm : (xs.length + L - 1) / L ≤ 1000 := by
    by_cases c : xs.length = 0
    · rw [c]
      have : (0 + L - 1) / L = 0 := Nat.div_eq_of_lt (by omega)
      omega
    · have e1 : xs.length + L - 1 = (xs.length - 1) + L := by omega
      rw [e1, Nat.add_div_right _ hL0]
      have := Nat.div_le_self (xs.length - 1) L
      omega
  refine then_nx ?_
  refine xs_seq (xs1_asg (d := runsD fs (chunks L xs ((xs.length + L - 1) / L))) ?_ ?_)
  · refine ev_is (ev1_lc (items := rngD 0 L ((xs.length + L - 1) / L)) (fun i _ => rowsD (isort (leR fs) ((xs.drop (i * L)).take L))) (ew_rng3 (a := 0) (b := (xs.length : Nat)) (c := (L : Nat)) ev_int (ev_is (ev1_cb (ea1_cons (ev_var (d := rowsD xs) rfl) ea_nil) cd_lenL) (by rw [List.length_map])) (ev_var rfl) (RgC.up hL0 hL2 (by omega))) (by rw [rngD_len]; omega) fun i d hd => ?_) ?_
    · obtain ⟨hi, rfl⟩ := rngD_of hd
      refine ⟨[5], _, by simp, tg_name, ?_⟩
      refine ev_ls (xs := (xs.drop (i * L)).take L) (ev_is (ev1_sl (ev_var (d := rowsD xs) rfl) (eo1_some (ev_var (d := .int (0 + (i : Nat) * (L : Nat))) rfl)) (eo1_some (ev1_op (ev_var (d := .int (0 + (i : Nat) * (L : Nat))) rfl) (ev_var (d := .int (L : Nat)) rfl) od_add)) sd_lst) ?_) (ev_var rfl) (fun x hx => hl x (List.mem_of_mem_drop (List.mem_of_mem_take hx))) (by simp only [List.length_take, List.length_drop]; omega)
      have e1 : (0 : Int) + (i : Nat) * (L : Nat) = ((i * L : Nat) : Int) := by rw [Int.zero_add, Int.natCast_mul]
      have e2 : ((i * L : Nat) : Int) + (L : Nat) = ((i * L + L : Nat) : Int) := by rw [Int.natCast_add]
      rw [e1, e2, cutD_nn]
      show D.lst _ = D.lst _
      congr 1
      rw [List.drop_take, ← List.map_drop, ← List.map_take]
      congr 2
      omega
    · rw [mapIdx_rng (g := fun i => rowsD (isort (leR fs) ((xs.drop (i * L)).take L))) fun i d _ => rfl]
      unfold runsD chunks
      rw [List.map_map]
      rfl
  have hflat : (chunks L xs ((xs.length + L - 1) / L)).flatten = xs := by
    rw [chunks_flat]
    refine List.take_of_length_le ?_
    have h1 := Nat.div_add_mod (xs.length + L - 1) L
    have h2 := Nat.mod_lt (xs.length + L - 1) hL0
    rw [Nat.mul_comm] at h1
    omega
  have hm0 : (chunks L xs ((xs.length + L - 1) / L)).length ≤ 1000 := by simpa [chunks] using hm
  generalize chunks L xs ((xs.length + L - 1) / L) = cs0 at hflat hm0
  refine then_nx ?_
  refine xs_seq (xs_while (fun m Δ' => ∃ (cs : List (List Row)) (y z : Sl), Δ' = [.dat (rowsD xs), .dat (fB fs), .dat (.int (L : Nat)), .dat (runsD fs cs), y, z] ∧ cs.flatten = xs ∧ cs.length ≤ 1000 ∧ m = cs.length) _ ⟨cs0, _, _, rfl, hflat, hm0, rfl⟩ ?_)
  rintro m Δ' ⟨cs, y, z, rfl, hf, hc, rfl⟩
  have hlen : ∀ {Δ : En} {E : L2.St → XK}, Δ[3]? = some (Sl.dat (runsD fs cs)) → Ev K E (tCB (rLenC K) (tCons (tVar 3) tNil)) Δ (· = .int (cs.length : Nat)) fun _ => False := fun h => ev_is (ev1_cb (ea1_cons (ev_var h) ea_nil) cd_lenL) (by rw [List.length_map])
  have hlc : ∀ c ∈ cs, Len fs c ∧ c.length ≤ 1000 := fun c hc => by
    refine ⟨fun x hx => hl x (by rw [← hf]; exact List.mem_flatten.mpr ⟨c, hc, hx⟩), ?_⟩
    have : c.length ≤ cs.flatten.length := (List.sublist_flatten_of_mem hc).length_le
    rw [hf] at this
    omega
  refine ⟨(· = decide ((1 : Int) < cs.length)), fun _ => False, et1_val (ev1_op (hlen rfl) ev_int od_gt), fun _ z => z.elim, fun hb => ?_, fun hb => ?_⟩
  · have hc1 : 1 < cs.length := by have := of_decide_eq_true hb.symm; omega
    refine xs_seq (xs_new0 ?_)
    refine then_nx ?_
    refine xs_seq (xs1_for (items := rngD 0 2 ((cs.length + 2 - 1) / 2)) (ew_rng3 (a := 0) (b := (cs.length : Nat)) (c := 2) ev_int (hlen rfl) ev_int (RgC.up (l := 2) (by decide) (by decide) (by omega))) (fun i Δ' => ∃ z, Δ' = [.dat (rowsD xs), .dat (fB fs), .dat (.int (L : Nat)), .dat (runsD fs cs), .own (((pairUp cs).take i).map fun c => rowsD (isort (leR fs) c)), z]) ⟨_, rfl⟩ ?_ ?_)
    · rintro i d Δ' hd ⟨z, rfl⟩
      obtain ⟨hi, rfl⟩ := rngD_of hd
      have hi' : i < (cs.length + 1) / 2 := by
        have : cs.length + 2 - 1 = cs.length + 1 := by omega
        rwa [this] at hi
      have hg := pairUp_get hi'
      have h2i : 2 * i < cs.length := by omega
      obtain ⟨a, ha⟩ := get_ex h2i
      rw [ha] at hg
      have hsz : (((pairUp cs).take i).map fun c => rowsD (isort (leR fs) c)).length < sizeLine := szlt (by
        rw [List.length_map, List.length_take, pairUp_len]; omega)
      refine ⟨[5], _, tg_name, ?_⟩
      have e0 : (0 : Int) + (i : Nat) * 2 = ((2 * i : Nat) : Int) := by omega
      have e1 : ((2 * i : Nat) : Int) + 1 = ((2 * i + 1 : Nat) : Int) := by omega
      rw [e0]
      have la := hlc a (List.mem_of_getElem? ha)
      have ia : ∀ {Δ : En}, Δ[3]? = some (Sl.dat (runsD fs cs)) → Δ[5]? = some (Sl.dat (.int ((2 * i : Nat) : Int))) → Ev K (WE W) (tOp (rIx K) (tVar 3) (tVar 5)) Δ (· = rowsD (isort (leR fs) a)) fun _ => False := fun h1 h2 => ev1_op (ev_var h1) (ev_var h2) (od_ixL (atI_nat (map_get ha)))
      refine xs1_if (et1_val (ev1_op (ev1_op (ev_var (d := .int ((2 * i : Nat) : Int)) rfl) ev_int od_add) (hlen rfl) od_lt)) (fun hb => ?_) fun hb => ?_
      · have hlt : 2 * i + 1 < cs.length := by have := of_decide_eq_true hb; omega
        obtain ⟨b, hb⟩ := get_ex hlt
        rw [hb] at hg
        have lb := hlc b (List.mem_of_getElem? hb)
        have ib : ∀ {Δ : En}, Δ[3]? = some (Sl.dat (runsD fs cs)) → Δ[5]? = some (Sl.dat (.int ((2 * i : Nat) : Int))) → Ev K (WE W) (tOp (rIx K) (tVar 3) (tOp (rAddG K) (tVar 5) (tC (.int 1)))) Δ (· = rowsD (isort (leR fs) b)) fun _ => False := fun h1 h2 => ev1_op (ev_var h1) (ev1_op (ev_var h2) ev_int od_add) (by rw [e1]; exact od_ixL (atI_nat (map_get hb)))
        refine xs1_app rfl hsz (d := rowsD (isort (leR fs) (a ++ b))) (ev_is (ev_mp (ia rfl rfl) (ib rfl rfl) (ev_var rfl) (fun x hx => la.1 x (mem_isort hx)) (fun x hx => lb.1 x (mem_isort hx)) (by rw [isort_len]; exact la.2) (by rw [isort_len]; exact lb.2)) (by rw [mrg_isort (leR_tr fs) (leR_to fs) a _ b rfl])) ?_
        refine ⟨.dat (.int ((2 * i : Nat) : Int)), ?_⟩
        rw [take_at hg, List.map_append]
        rfl
      · have hge : ¬ 2 * i + 1 < cs.length := by have := of_decide_eq_false hb; omega
        have en : cs[2 * i + 1]? = none := List.getElem?_eq_none (by omega)
        rw [en] at hg
        refine xs1_app rfl hsz (d := rowsD (isort (leR fs) a)) (ia rfl rfl) ?_
        refine ⟨.dat (.int ((2 * i : Nat) : Int)), ?_⟩
        rw [take_at hg, List.map_append]
        rfl
    · rintro Δ' ⟨z, rfl⟩
      have e : (pairUp cs).take (rngD 0 2 ((cs.length + 2 - 1) / 2)).length = pairUp cs := List.take_of_length_le (by rw [rngD_len, pairUp_len]; omega)
      rw [e]
      refine then_nx ?_
      refine xs_freeze (i := 4) (ds := (pairUp cs).map fun c => rowsD (isort (leR fs) c)) rfl (xs1_asg (d := runsD fs (pairUp cs)) (ev_var rfl) ?_)
      refine ⟨_, ?_, pairUp cs, _, _, rfl, (pairUp_flat cs).trans hf, by rw [pairUp_len]; omega, rfl⟩
      rw [pairUp_len]; omega
  · have hc1 : cs.length ≤ 1 := by have := of_decide_eq_false hb.symm; omega
    refine then_nx ?_
    match cs, hc1, hf, hlc with
    | [], _, hf, _ =>
      have hx : xs = [] := hf.symm
      subst hx
      refine xs1_ret (d := rowsD []) (ev_is (ev1_if (x := .non) (y := .lst []) (et1_val (ev1_op (ev_var (d := runsD fs []) rfl) (ev1_lst ea_nil) (od_neSelf (runs_ok fs []) rfl))) (fun z => nomatch z) fun _ => ev1_lst ea_nil) rfl) ⟨[], fs, _, rfl, .inr ⟨hl1, rfl⟩⟩
    | [c], _, hf, _ =>
      have hx : c = xs := by simpa using hf
      subst hx
      have ne : (!PyData.eqv (runsD fs [c]).py (D.lst []).py) = true := by rfl
      refine xs1_ret (d := rowsD (isort (leR fs) c)) (ev_is (ev1_if (b := true) (x := rowsD (isort (leR fs) c)) (y := .non) (et1_val (ev_is (ev1_op (ev_var (d := runsD fs [c]) rfl) (ev1_lst ea_nil) (od_neD (runs_ok fs [c]) rfl)) (by rw [ne]))) (fun _ => ev1_op (ev_var (d := runsD fs [c]) rfl) ev_int (od_ixL rfl)) fun z => nomatch z) rfl) ⟨c, fs, _, rfl, .inr ⟨hl1, rfl⟩⟩
end
end K27


namespace K27
open PySem PySem.Spec PyProof.Rows L2 Ts
section
variable {K : PySem.W.Frag} {W : WX} {T : Tb}
section
variable {E : L2.St → XK} {Δ : En} {X : Addr → Prop} {ta tb tc : TE} {xs s t : List Row} {fs : List Bool}
theorem ev_roll {i : Nat} {n : Int} (hi : Δ[i]? = some (Sl.dice T)) (h : Ev K E ta Δ (· = .int n) X) (h0 : 0 < n) (h1 : n < 2 ^ 64) : Ev K E (tCallS (spRoll K T) E (tCons (tVar i) (tCons ta tNil))) Δ (fun d => ∃ i : Int, d = .int i ∧ 0 ≤ i ∧ i < n) X :=
  ev_callq hi (ea1_cons h ea_nil) (fun ds e => ⟨n, e, h0, h1⟩) (fun ds d e ⟨n', i, e', r, a, b⟩ => by
    rw [e] at e'
    injection e' with e'
    injection e' with e'
    subst e'
    injection r with r
    exact ⟨i, r, a, b⟩) fun ds C e ⟨_, _, _, z, _⟩ => nomatch z
theorem ev_so {l : Int} (h1 : Ev K E ta Δ (· = rowsD xs) X) (h2 : Ev K E tb Δ (· = fB fs) X) (h3 : Ev K E tc Δ (· = .int l) X) (hl : Len fs xs) (hn : xs.length ≤ 1000) (hl1 : 1 ≤ l) (hl2 : l < 2 ^ 29) : Ev K E (tCallS (spSo K) E (tCons ta (tCons tb (tCons tc tNil)))) Δ (· = rowsD (isort (leR fs) xs)) X :=
  ev1_call (ea1_cons h1 (ea1_cons h2 (ea1_cons h3 ea_nil))) ⟨xs, fs, l, rfl, hl, hn, hl2⟩ (fun e ⟨a', b', c', h, r⟩ => by
    injection h with h1 h
    injection h with h2 h
    injection h with h3 _
    injection h3 with h3
    subst h3
    rw [inj_rows h1, inj_fB h2]
    rcases r with ⟨z, _⟩ | ⟨_, r⟩
    · omega
    · injection r) fun C ⟨_, _, _, h, r⟩ => by
    injection h with h1 h
    injection h with h2 h
    injection h with h3 _
    injection h3 with h3
    subst h3
    rcases r with ⟨z, _⟩ | ⟨_, r⟩
    · omega
    · nomatch r
theorem ev_rc {n l : Nat} (h1 : Ev K E ta Δ (· = .int n) X) (h2 : Ev K E tb Δ (· = .int l) X) (h0 : 0 < l) (hl : l < 2 ^ 29) : Ev K E (tCallS (spRc K) E (tCons ta (tCons tb tNil))) Δ (· = .int ((n + l - 1) / l : Nat)) X :=
  ev1_call (ea1_cons h1 (ea1_cons h2 ea_nil)) ⟨n, l, rfl, h0, hl⟩ (fun e ⟨a', b', h, r⟩ => by
    injection h with h1 h
    injection h with h2 _
    injection h1 with h1
    injection h2 with h2
    have e1 : n = a' := by omega
    have e2 : l = b' := by omega
    subst e1; subst e2
    injection r) fun C ⟨_, _, _, z⟩ => nomatch z
end
theorem then_nx' {u : TS} {Δ : En} {post : Out → Prop} (h : Xs K W u Δ post) : thenP K W u post (.nx Δ) := h
def bPost : Out → Prop := fun o => match o with
  | .nx _ => True
  | .ct _ => True
  | _ => False
abbrev bT (K : PySem.W.Frag) (W : WX) (T : Tb) : TS := b_law K W T (spBe K) (spRoll K T) (spRounds K) (spLs K) (spMp K) (spOp K) (spRc K) (spSo K) (spLs K)
abbrev fT (K : PySem.W.Frag) (W : WX) (T : Tb) : TE := f_law K W T (spBe K) (spRoll K T) (spRounds K) (spLs K) (spMp K) (spOp K) (spRc K) (spSo K) (spLs K)
theorem body_xs : Xs K W (bT K W T) (Sl.no :: Sl.dice T :: List.replicate 12 Sl.no) bPost := by
  -- many
  refine xs_seq (xs_asg (R := fun d => ∃ m : Nat, d = .int m ∧ 1 ≤ m ∧ m ≤ 3) (X := fun _ => False) (ev_op (Ra := (· = .int 1)) ev_int (ev_roll (T := T) (n := 3) rfl ev_int (by decide) (by decide)) fun x y e1 ⟨i, e2, a, b⟩ => ?_) (fun _ z => z.elim) ?_)
  · subst e1; subst e2
    refine od_add.imp fun d e => ⟨(1 + i).toNat, ?_, by omega, by omega⟩
    rw [e]
    congr 1
    omega
  rintro d ⟨m, rfl, hm1, hm3⟩
  refine then_nx' ?_
  -- descending
  refine xs_seq (xs_asg (R := fun d => ∃ fs : List Bool, d = fB fs ∧ fs.length = m) (X := fun _ => False) (ev_lc (Rw := (· = rngD 0 1 m)) (ew_rng1 ((ev_var (d := .int m) rfl).imp fun d e => ⟨m, e, by omega, by omega, by rw [Int.toNat_natCast]⟩)) (fun _ i acc => ∃ fs : List Bool, acc = fs.map D.bl ∧ fs.length = i) (fun _ _ => ⟨[], rfl, rfl⟩) (fun items i d acc ei hi ha => ?_) fun items acc ei ha => ?_) (fun _ z => z.elim) ?_)
  · subst ei
    obtain ⟨hi, rfl⟩ := rngD_of hi
    obtain ⟨fs, rfl, hfs⟩ := ha
    refine ⟨[12], _, by simp, tg_name, et_yes.imp fun b eb => ⟨fun _ => ?_, fun z => by rw [eb] at z; cases z⟩⟩
    refine ev_op (Rb := (· = .int 1)) (ev_roll (T := T) (n := 2) rfl ev_int (by decide) (by decide)) ev_int fun x y ⟨i, e1, _, _⟩ e2 => ?_
    subst e1; subst e2
    refine od_eqI.imp fun d e => ⟨szlt (by rw [List.length_map]; omega), fs ++ [decide (i = 1)], ?_, by rw [List.length_append, hfs]; rfl⟩
    rw [e, List.map_append]; rfl
  · subst ei
    obtain ⟨fs, rfl, hfs⟩ := ha
    exact ⟨fs, rfl, by rw [hfs, rngD_len]⟩
  rintro d ⟨fs, rfl, hfs⟩
  refine then_nx' ?_
  -- rows
  refine xs_seq (xs_asg (R := fun d => ∃ xs : List Row, d = rowsD xs ∧ Len fs xs ∧ xs.length ≤ 30) (X := fun _ => False) (ev_lc (Rw := fun items => ∃ n : Nat, n ≤ 30 ∧ items = rngD 0 1 n) (ew_rng1 ((ev_roll (T := T) (n := 31) rfl ev_int (by decide) (by decide)).imp fun d ⟨i, e, a, b⟩ => ⟨i, e, by omega, by omega, i.toNat, by omega, rfl⟩)) (fun _ i acc => ∃ xs : List Row, acc = xs.map Row.d ∧ Len fs xs ∧ xs.length = i) (fun _ _ => ⟨[], rfl, fun x h => (nomatch h), rfl⟩) (fun items i d acc ei hi ha => ?_) fun items acc ei ha => ?_) (fun _ z => z.elim) ?_)
  · obtain ⟨n, hn, rfl⟩ := ei
    obtain ⟨hi, rfl⟩ := rngD_of hi
    obtain ⟨xs, rfl, hl, hx⟩ := ha
    refine ⟨[12], _, by simp, tg_name, et_yes.imp fun b eb => ⟨fun _ => ?_, fun z => by rw [eb] at z; cases z⟩⟩
    refine ev_tup (Rs := fun ds => ∃ (r : List Int), ds = [tI r, .tup [.str "row", .int (0 + (i : Nat) * 1)]] ∧ r.length = m) (ea_cons (R := fun d => ∃ r : List Int, d = tI r ∧ r.length = m) (Rs := (· = [.tup [.str "row", .int (0 + (i : Nat) * 1)]])) ?_ (fun _ _ => ea1_cons (ev1_tup (ea1_cons ev_str (ea1_cons (ev_var rfl) ea_nil))) ea_nil) fun d ds ⟨r, e1, e2⟩ e3 => ⟨r, by rw [e1, e3], e2⟩) (fun ds ⟨r, e, _⟩ => by rw [e]; exact szl) fun ds ⟨r, e, er⟩ => ⟨szlt (by rw [List.length_map]; omega), xs ++ [⟨r, 0 + (i : Nat) * 1⟩], ?_, ?_, by rw [List.length_append, hx]; rfl⟩
    · refine ev_cb (Rs := fun ds => ∃ r : List Int, ds = [.lst (r.map D.int)] ∧ r.length = m) (ea_cons (R := fun d => ∃ r : List Int, d = .lst (r.map D.int) ∧ r.length = m) ?_ (fun _ _ => ea_nil) fun d ds ⟨r, e1, e2⟩ e3 => ⟨r, by rw [e1, e3], e2⟩) fun ds ⟨r, e, er⟩ => by subst e; exact cd_tupL.imp fun d e => ⟨r, e, er⟩
      refine ev_lc (Rw := (· = rngD 0 1 m)) (ew_rng1 ((ev_var (d := .int m) rfl).imp fun d e => ⟨m, e, by omega, by omega, by rw [Int.toNat_natCast]⟩)) (fun _ i acc => ∃ r : List Int, acc = r.map D.int ∧ r.length = i) (fun _ _ => ⟨[], rfl, rfl⟩) (fun items i d acc ei hi ha => ?_) fun items acc ei ha => ?_
      · subst ei
        obtain ⟨hi, rfl⟩ := rngD_of hi
        obtain ⟨r, rfl, hr⟩ := ha
        refine ⟨[13], _, by simp, tg_name, et_yes.imp fun b eb => ⟨fun _ => ?_, fun z => by rw [eb] at z; cases z⟩⟩
        refine (ev_roll (T := T) (n := 4) rfl ev_int (by decide) (by decide)).imp fun d ⟨v, e, _, _⟩ => ⟨szlt (by rw [List.length_map]; omega), r ++ [v], ?_, by rw [List.length_append, hr]; rfl⟩
        rw [e, List.map_append]; rfl
      · subst ei
        obtain ⟨r, rfl, hr⟩ := ha
        exact ⟨r, rfl, by rw [hr, rngD_len]⟩
    · rw [e, List.map_append]; rfl
    · intro x hxm
      rcases List.mem_append.mp hxm with z | z
      · exact hl x z
      · rw [List.mem_singleton.mp z, hfs]; exact er
  · obtain ⟨n, hn, rfl⟩ := ei
    obtain ⟨xs, rfl, hl, hx⟩ := ha
    exact ⟨xs, rfl, hl, by rw [hx, rngD_len]; exact hn⟩
  rintro d ⟨xs, rfl, hl, hn⟩
  have hn' : xs.length ≤ 1000 := by omega
  refine then_nx' ?_
  -- limit
  refine xs_seq (xs_asg (R := fun d => ∃ l : Nat, d = .int l ∧ 1 ≤ l ∧ l ≤ 9) (X := fun _ => False) (ev_op (Ra := (· = .int 1)) ev_int (ev_roll (T := T) (n := 9) rfl ev_int (by decide) (by decide)) fun x y e1 ⟨i, e2, a, b⟩ => ?_) (fun _ z => z.elim) ?_)
  · subst e1; subst e2
    refine od_add.imp fun d e => ⟨(1 + i).toNat, ?_, by omega, by omega⟩
    rw [e]
    congr 1
    omega
  rintro d ⟨l, rfl, hl1, hl9⟩
  refine then_nx' ?_
  -- due
  refine xs_seq (xs1_asg (d := rowsD (isort (leR fs) xs)) (ev_ls (ev_var rfl) (ev_var rfl) hl hn') ?_)
  refine then_nx' ?_
  -- sorted
  have hsl : ∀ {Δ : En}, Δ[4]? = some (Sl.dat (rowsD xs)) → Ev K (WE W) (tSl (rSlG K) (tVar 4) tNoPart (tPart (tC (.int 6)))) Δ (· = rowsD (xs.take 6)) fun _ => False := fun h => ev_is (ev1_sl (ev_var h) eo_none (eo1_some ev_int) sd_lst) (by
    rw [show (6 : Int) = ((6 : Nat) : Int) from rfl, cutD_to, ← List.map_take]; rfl)
  have l6 : Len fs (xs.take 6) := fun x h => hl x (List.mem_of_mem_take h)
  have n6 : (xs.take 6).length ≤ 1000 := by rw [List.length_take]; omega
  refine xs_seq (xs1_if (b := false) (et_is (et1_or (a := false) (b := false) (et1_val (ev1_op (ev_so (ev_var (d := rowsD xs) rfl) (ev_var (d := fB fs) rfl) (ev_var (d := .int l) rfl) hl hn' (by omega) (by omega)) (ev_var (d := rowsD (isort (leR fs) xs)) rfl) (od_neSelf (rows_ok _) rfl))) fun _ =>
    et1_val (ev1_op (ev_ls (hsl rfl) (ev_var (d := fB fs) rfl) l6 n6) (ev_ls (hsl rfl) (ev_var (d := fB fs) rfl) l6 n6) (od_neSelf (rows_ok _) rfl))) rfl) (fun z => nomatch z) fun _ => xs_next ?_)
  refine then_nx' ?_
  -- half
  have hlen : ∀ {Δ : En} {E : L2.St → XK}, Δ[4]? = some (Sl.dat (rowsD xs)) → Ev K E (tCB (rLenC K) (tCons (tVar 4) tNil)) Δ (· = .int (xs.length : Nat)) fun _ => False := fun h => ev_is (ev1_cb (ea1_cons (ev_var h) ea_nil) cd_lenL) (by rw [List.length_map])
  refine xs_seq (xs_asg (R := fun d => ∃ h : Nat, d = .int h) (X := fun _ => False) ((ev_roll (T := T) (n := xs.length + 1) rfl (ev1_op (hlen rfl) ev_int od_add) (by omega) (by omega)).imp fun d ⟨i, e, a, b⟩ => ⟨i.toNat, by rw [e]; congr 1; omega⟩) (fun _ z => z.elim) ?_)
  rintro d ⟨h, rfl⟩
  refine then_nx' ?_
  have la : Len fs (xs.take h) := fun x z => hl x (List.mem_of_mem_take z)
  have lb : Len fs (xs.drop h) := fun x z => hl x (List.mem_of_mem_drop z)
  have na : (xs.take h).length ≤ 1000 := by rw [List.length_take]; omega
  have nb : (xs.drop h).length ≤ 1000 := by rw [List.length_drop]; omega
  refine xs_seq (xs1_par (a := rowsD (isort (leR fs) (xs.take h))) (b := rowsD (isort (leR fs) (xs.drop h))) (ea1_cons (ev_ls (ev_is (ev1_sl (ev_var (d := rowsD xs) rfl) eo_none (eo1_some (ev_var (d := .int h) rfl)) sd_lst) (by rw [cutD_to, ← List.map_take]; rfl)) (ev_var (d := fB fs) rfl) la na) (ea1_cons (ev_ls (ev_is (ev1_sl (ev_var (d := rowsD xs) rfl) (eo1_some (ev_var (d := .int h) rfl)) eo_none sd_lst) (by rw [cutD_from, ← List.map_drop]; rfl)) (ev_var (d := fB fs) rfl) lb nb) ea_nil)) ?_)
  refine then_nx' ?_
  -- merged, counted
  have em : mrg (leR fs) (isort (leR fs) (xs.take h)) (isort (leR fs) (xs.drop h)) = isort (leR fs) xs := by
    rw [mrg_isort (leR_tr fs) (leR_to fs) _ _ _ rfl, List.take_append_drop]
  refine xs_seq (xs1_if (b := false) (et_is (et1_or (a := false) (b := false) (et1_val (ev1_op (ev_mp (ev_var (d := rowsD (isort (leR fs) (xs.take h))) rfl) (ev_var (d := rowsD (isort (leR fs) (xs.drop h))) rfl) (ev_var (d := fB fs) rfl) (fun x z => la x (mem_isort z)) (fun x z => lb x (mem_isort z)) (by rw [isort_len]; exact na) (by rw [isort_len]; exact nb)) (ev_var (d := rowsD (isort (leR fs) xs)) rfl) (od_neSelf (rows_ok _) (by rw [em])))) fun _ =>
    et1_val (ev_is (ev1_op (ev_rc (hlen rfl) (ev_var (d := .int l) rfl) hl1 (by omega)) (ev1_cb (ea1_cons ev_int (ea1_cons (hlen rfl) (ea1_cons (ev_var (d := .int l) rfl) ea_nil))) (cd_lenRng3 (RgC.up hl1 (by omega) (by omega)) ?_)) od_neI) ?_)) rfl) (fun z => nomatch z) fun _ => xs_next ?_)
  · have h1 := Nat.div_le_self (xs.length + l - 1) l
    omega
  · simp
  refine then_nx' ?_
  -- neighbours
  refine xs_for (Rw := (· = zipD (xs.map Row.d) ((xs.drop 1).map Row.d))) (X := fun _ => False) (ew_zip ((ev_var (d := rowsD xs) rfl).imp fun d e => e) fun d e => (ev1_sl (ev_var (d := rowsD xs) rfl) (eo1_some ev_int) eo_none sd_lst).imp fun d2 e2 => ⟨_, _, e, e2, ?_⟩) (fun _ z => z.elim) (fun items i Δ' => ∃ y z, Δ' = ([.no, .dice T, .dat (.int m), .dat (fB fs), .dat (rowsD xs), .dat (.int l), .dat (rowsD (isort (leR fs) xs)), .dat (.int h), .dat (rowsD (isort (leR fs) (xs.take h))), .dat (rowsD (isort (leR fs) (xs.drop h))), y, z, .no, .no] : En)) (fun _ _ => ⟨_, _, rfl⟩) ?_ fun _ _ _ _ => trivial
  · rw [show (1 : Int) = ((1 : Nat) : Int) from rfl, cutD_from, ← List.map_drop]
  · rintro items i d Δ' rfl hd ⟨y, z, rfl⟩
    obtain ⟨d1, d2, h1, h2, rfl⟩ := zipD_of hd
    obtain ⟨a, ha, rfl⟩ := of_map_get h1
    obtain ⟨b, hb, rfl⟩ := of_map_get h2
    have hla := hl a (List.mem_of_getElem? ha)
    have hlb := hl b (List.mem_of_mem_drop (List.mem_of_getElem? hb))
    refine ⟨[10, 11], _, tg2, ?_⟩
    refine xs1_if (b := false) (et1_val (ev_is (ev1_op (ev_op_ (ev_r (x := a) (ev_var rfl)) (ev_r (x := b) (ev_var rfl)) (ev_var (d := fB fs) rfl) hla hlb) (ev_be_ (ev_r (x := b) (ev_var rfl)) (ev_r (x := a) (ev_var rfl)) (ev_var (d := fB fs) rfl) hlb hla) od_eqB) ?_)) (fun z => nomatch z) fun _ => xs_next ⟨_, _, rfl⟩
    cases bef fs b.r a.r <;> rfl
theorem fin_ok (hx : PySem.W.exmOne K (.ref (He.ga K "PlanFault")) (.ref (He.ga K "PlanFault")) = some true) {σ : L2.St} {H : Hp} {Q : VK} (hT : LamX.Tabs T H) (k : ∀ H', Q (.bl true) H') : fT K W T σ H Q := by
  refine and_fin (T := T) (fun Q' k' => told_eq (T := T) (fun Q2 k2 => told_fin (Xb := (· = He.ga K "PlanFault")) hT (fun EL => ?_) (fun C e => by subst e; exact hx) k2) k') fun H' t => ?_
  · refine ev_call (Rs := (· = [.lst [], .lst [], .int 0])) (ea1_cons (ev1_lst ea_nil) (ea1_cons (ev1_lst ea_nil) (ea1_cons ev_int ea_nil))) (fun ds e => ⟨[], [], 0, e, fun x h => (nomatch h), Nat.zero_le _, by decide⟩) (fun ds d e ⟨xs, fs, l, e2, r⟩ => ?_) fun ds C e ⟨xs, fs, l, e2, r⟩ => ?_
    · rw [e] at e2
      injection e2 with _ e2
      injection e2 with _ e2
      injection e2 with e2 _
      injection e2 with e2
      subst e2
      rcases r with ⟨_, r⟩ | ⟨z, _⟩
      · cases r
      · exact absurd z (by decide)
    · rcases r with ⟨_, r⟩ | ⟨_, r⟩
      · injection r
      · cases r
  · exact ev_fin (ev1_op (ev_so (xs := []) (fs := [false]) (l := 3) (ev1_lst ea_nil) (ev1_lst (ea1_cons ev_bl ea_nil)) ev_int (fun x h => (nomatch h)) (Nat.zero_le _) (by decide) (by decide)) (ev1_lst ea_nil) (od_eqSelf (rows_ok _) rfl)) rfl fun H2 _ => k H2
end
end K27


namespace K27
open PySem PySem.Spec PyProof.Rows L2 Ts
abbrev FD (K : PySem.W.Frag) (x : Str) (st : Stmt) (f : Addr) (fd : FuncData) : Prop := FunD K x x (defArgs st) (defBody st) (defScope st) [] [] f fd
section
variable {P : Program} {w : World} {K : PySem.W.Frag} {mg : Str → Option Value} {base : Heap} {f : Addr} {fd : FuncData} {T : Tb}
theorem cal_ordered_pair (t : Txt K mg) (F : FD K "ordered_pair" s_ordered_pair f fd) (M : mg "ordered_pair" = some (.ref f)) : Cal P w K mg base 1 "ordered_pair" (spOp K) :=
  cal_of (fn_D F sc_ordered_pair (fun ds ⟨_, _, _, e, _⟩ => by rw [e]; rfl) (fun cdv A outer s H E hr => der_ordered_pair t hr) (fun W ds h => op_xs h)) M F.kp (F.bindsN fun _ _ _ _ _ _ us hl => match us, hl with | [_, _, _], _ => rfl)
theorem cal_law_before (t : Txt K mg) (F : FD K "_law_before" s__law_before f fd) (M : mg "_law_before" = some (.ref f)) : Cal P w K mg base 1 "_law_before" (spBe K) :=
  cal_of (fn_D F sc__law_before (fun ds ⟨_, _, _, e, _⟩ => by rw [e]; rfl) (fun cdv A outer s H E hr => der__law_before t hr) (fun W ds h => be_xs h)) M F.kp (F.bindsN fun _ _ _ _ _ _ us hl => match us, hl with | [_, _, _], _ => rfl)
theorem cal_run_count (t : Txt K mg) (F : FD K "run_count" s_run_count f fd) (M : mg "run_count" = some (.ref f)) : Cal P w K mg base 1 "run_count" (spRc K) :=
  cal_of (fn_D F sc_run_count (fun ds ⟨_, _, e, _⟩ => by rw [e]; rfl) (fun cdv A outer s H E hr => der_run_count t hr) (fun W ds h => rc_xs h)) M F.kp (F.bindsN fun _ _ _ _ _ _ us hl => match us, hl with | [_, _], _ => rfl)
theorem cal_merged_pair (t : Txt K mg) (c : Cal P w K mg base 1 "ordered_pair" (spOp K)) (F : FD K "merged_pair" s_merged_pair f fd) (M : mg "merged_pair" = some (.ref f)) : Cal P w K mg base 2 "merged_pair" (spMp K) :=
  cal_of (fn_D F sc_merged_pair (fun ds ⟨_, _, _, e, _⟩ => by rw [e]; rfl) (fun cdv A outer s H E hr => der_merged_pair t c hr) (fun W ds h => mp_xs h)) M F.kp (F.bindsN fun _ _ _ _ _ _ us hl => match us, hl with | [_, _, _], _ => rfl)
theorem cal_sorted_run (t : Txt K mg) (c : Cal P w K mg base 1 "ordered_pair" (spOp K)) (F : FD K "sorted_run" s_sorted_run f fd) (M : mg "sorted_run" = some (.ref f)) : Cal P w K mg base 2 "sorted_run" (spLs K) :=
  cal_of (fn_D F sc_sorted_run (fun ds ⟨_, _, e, _⟩ => by rw [e]; rfl) (fun cdv A outer s H E hr => der_sorted_run t c hr) (fun W ds h => sr_xs h)) M F.kp (F.bindsN fun _ _ _ _ _ _ us hl => match us, hl with | [_, _], _ => rfl)
theorem cal_law_sorted (t : Txt K mg) (c : Cal P w K mg base 1 "_law_before" (spBe K)) (F : FD K "_law_sorted" s__law_sorted f fd) (M : mg "_law_sorted" = some (.ref f)) : Cal P w K mg base 2 "_law_sorted" (spLs K) :=
  cal_of (fn_D F sc__law_sorted (fun ds ⟨_, _, e, _⟩ => by rw [e]; rfl) (fun cdv A outer s H E hr => der__law_sorted t c hr) (fun W ds h => ls_xs h)) M F.kp (F.bindsN fun _ _ _ _ _ _ us hl => match us, hl with | [_, _], _ => rfl)
theorem cal_sort_rows (t : Txt K mg) (c1 : Cal P w K mg base 2 "merged_pair" (spMp K)) (c2 : Cal P w K mg base 2 "sorted_run" (spLs K)) (F : FD K "sort_rows" s_sort_rows f fd) (M : mg "sort_rows" = some (.ref f)) : Cal P w K mg base 3 "sort_rows" (spSo K) :=
  cal_of (fn_D F sc_sort_rows (fun ds ⟨_, _, _, e, _⟩ => by rw [e]; rfl) (fun cdv A outer s H E hr => der_sort_rows t c1 c2 hr) (fun W ds h => so_xs h)) M F.kp (F.bindsN fun _ _ _ _ _ _ us hl => match us, hl with | [_, _, _], _ => rfl)
theorem cal_law_dice (t : Txt K mg) (F : FD K "_law_dice" s__law_dice f fd) (M : mg "_law_dice" = some (.ref f)) : Cal P w K mg base 1 "_law_dice" (spDice K) :=
  cal_of (fn_D F sc__law_dice (fun ds ⟨_, e⟩ => by rw [e]; rfl) (fun cdv A outer s H E hr => der__law_dice t hr) (fun W ds h => dice_xs h)) M F.kp (F.bindsN fun _ _ _ _ _ _ us hl => match us, hl with | [_], _ => rfl)
theorem cal_law_roll (t : Txt K mg) (F : FD K "_law_roll" s__law_roll f fd) (M : mg "_law_roll" = some (.ref f)) : Cal P w K mg base 1 "_law_roll" (spRoll K T) :=
  cal_of (fn_Q F sc__law_roll (fun ds ⟨_, e, _⟩ => by rw [e]; rfl) (fun cdv A outer s H E hr => der__law_roll t hr) (fun W ds h => roll_xs h)) M F.kp (F.bindsN fun _ _ _ _ _ _ us hl => match us, hl with | [_, _], _ => rfl)
theorem cal_law_rounds (t : Txt K mg) (c : Cal P w K mg base 1 "_law_dice" (spDice K)) (F : FD K "_law_rounds" s__law_rounds f fd) (M : mg "_law_rounds" = some (.ref f)) : Cal P w K mg base 2 "_law_rounds" (spRounds K) :=
  cal_of (fn_H (t := fun W => t__law_rounds K W (spDice K)) F sc__law_rounds (fun vs H Q E ⟨_, _, e, _⟩ => by rw [e]; rfl) (fun cdv A outer s H E _ hr => der__law_rounds t c hr) (fun W vs H Q E h => rounds_pure (W := W) h)) M F.kp (F.bindsN fun _ _ _ _ _ _ us hl => match us, hl with | [_, _], _ => rfl)
end
/-! ### the head -/
def dF (x : Str) (s : Stmt) : He.DefD := ⟨(x, none), x, x, defArgs s, defBody s, defScope s, [], []⟩
def fn : List He.DefD := [dF "ordered_pair" s_ordered_pair, dF "merged_pair" s_merged_pair, dF "sorted_run" s_sorted_run, dF "sort_rows" s_sort_rows, dF "run_count" s_run_count, dF "_law_dice" s__law_dice, dF "_law_roll" s__law_roll, dF "_law_rounds" s__law_rounds, dF "_law_told" s__law_told, dF "_law_before" s__law_before, dF "_law_sorted" s__law_sorted, dF "law" s_law]
def fa : List He.Fa := [.glo "ordered_pair", .glo "merged_pair", .glo "sorted_run", .glo "sort_rows", .glo "run_count", .glo "_law_dice", .glo "_law_roll", .glo "_law_rounds", .glo "_law_told", .glo "_law_before", .glo "_law_sorted", .glo "law", .glo "PlanFault", .exc "PlanFault", .exm "PlanFault" "PlanFault" true,
  .free "abs", .free "enumerate", .free "int", .free "len", .free "range", .free "tuple", .free "zip"]
def tf : List He.Defn := [("law", none)]
abbrev R : PySem.W.OpenRow := PySem.W.OpenLaw.row PySem.Challenge.rw_tablestack_k27_sorted_in_runs
abbrev hk : PySem.W.Hook := He.hookX 5 fa fn [] tf (fun _ => true)
def ob (s : PySem.W.SharedT) : He.AlX := He.obsX 5 fa fn [] tf (fun _ => true) (HandSHeadRun.getT s)
theorem ob_eq (s : PySem.W.SharedT) : ob s = hk.obs s.abs := He.obsX_eq (HandSHeadRun.getT_eq s)
abbrev loose : List Str := ["TableError", "PlanFault", "ordered_pair", "merged_pair", "sorted_run", "sort_rows", "run_count", "_law_dice", "_law_roll", "_law_rounds", "_law_told", "_law_before", "_law_sorted"]
theorem run (w : World) : HandSHeadRun.RunEq R (PySem.W.view R.prog [16]) hk ob 3000 loose w := by
  intro os
  kernel_rfl
/-! ### the law's def, its facts -/
theorem law_ok {P : Program} {w : World} {K : PySem.W.Frag} {mg : Str → Option Value} {base : Heap} (t : Txt K mg) (hx : PySem.W.exmOne K (.ref (He.ga K "PlanFault")) (.ref (He.ga K "PlanFault")) = some true)
    {fd fd_told : FuncData} (F : FD K "law" s_law (He.fAd K ("law", none)) fd) (F_told : FD K "_law_told" s__law_told (He.ga K "_law_told") fd_told) (M_told : mg "_law_told" = some (.ref (He.ga K "_law_told")))
    (TB : LamX.TabB base mg (He.cT K ("law", none)).1 (He.cT K ("law", none)).2) (T : Tb) (eT : T = [((He.cT K ("law", none)).2, lamQ_law)])
    (c1 : Cal P w K mg base 1 "_law_before" (spBe K)) (c2 : Cal P w K mg base 1 "_law_roll" (spRoll K T)) (c3 : Cal P w K mg base 2 "_law_rounds" (spRounds K)) (c4 : Cal P w K mg base 2 "_law_sorted" (spLs K)) (c5 : Cal P w K mg base 2 "merged_pair" (spMp K)) (c6 : Cal P w K mg base 1 "ordered_pair" (spOp K)) (c7 : Cal P w K mg base 1 "run_count" (spRc K)) (c8 : Cal P w K mg base 3 "sort_rows" (spSo K)) (c9 : Cal P w K mg base 2 "sorted_run" (spLs K)) :
    FnOk P w K mg base (L2.CX P w) 6 (He.fAd K ("law", none)) fd ["script"] (spLaw K [(He.cT K ("law", none)).2]) := by
  have B_told : Binds K fd_told ["what"] [] := F_told.bindsN fun _ _ _ _ _ _ us hl => match us, hl with | [_], _ => rfl
  refine fn_H (t := fun W => t_law K W T (spBe K) (spRoll K T) (spRounds K) (spLs K) (spMp K) (spOp K) (spRc K) (spSo K) (spLs K)) F sc_law (fun vs H Q E ⟨_, _, e, _⟩ => by rw [e]; rfl) (fun cdv A outer s H E e hr => der_law t c1 c2 c3 c4 c5 c6 c7 c8 c9 TB (by rw [eT]; exact List.mem_cons_self) (fun p hp _ => by rw [eT] at hp; rw [List.mem_singleton.mp hp]) F_told M_told B_told (e.symm.trans (code_of F)) hr) fun W vs H Q E hsp => ?_
  exact law_frame (T := T) (n := 12) hsp (fun p hp => by rw [eT] at hp; rw [List.mem_singleton.mp hp]; exact List.mem_cons_self) rfl body_xs fun σ H' hT => fin_ok hx hT fun H2 => by
    obtain ⟨_, _, _, _, _, k⟩ := hsp
    exact k H2
theorem facts {w : World} {h : Heap} {mg : Str → Option Value} {f : Addr} {K : PySem.W.Frag} (X : K.In h) (G : h.Ns mainGlobals mg) (hfa : mg ("law" : Str) = some (.ref f)) (c : He.SaysX fa fn [] tf (fun _ => true) w h K) :
    LamX.LawAtS PySem.Challenge.rw_tablestack_k27_sorted_in_runs w K (L2.CX (PySem.Challenge.rw_tablestack_k27_sorted_in_runs).prog w) 6 63 "script" mg f h := by
  have d := c.t.d
  have glo : ∀ {x : Str}, He.Fa.glo x ∈ fa → mg x = some (.ref (He.ga K x)) := fun h => He.glo_ok X G (d.facts h)
  have fre : ∀ {x : Str}, He.Fa.free x ∈ fa → mg x = none := fun h => He.free_ok X G (d.facts h)
  obtain ⟨fdL, FL⟩ := d.defs (d := dF "law" s_law) (by simp [fn])
  obtain ⟨fdT, FT⟩ := d.defs (d := dF "_law_told" s__law_told) (by simp [fn])
  obtain ⟨fd1, F1⟩ := d.defs (d := dF "ordered_pair" s_ordered_pair) (by simp [fn])
  obtain ⟨fd2, F2⟩ := d.defs (d := dF "merged_pair" s_merged_pair) (by simp [fn])
  obtain ⟨fd3, F3⟩ := d.defs (d := dF "sorted_run" s_sorted_run) (by simp [fn])
  obtain ⟨fd4, F4⟩ := d.defs (d := dF "sort_rows" s_sort_rows) (by simp [fn])
  obtain ⟨fd5, F5⟩ := d.defs (d := dF "run_count" s_run_count) (by simp [fn])
  obtain ⟨fd6, F6⟩ := d.defs (d := dF "_law_dice" s__law_dice) (by simp [fn])
  obtain ⟨fd7, F7⟩ := d.defs (d := dF "_law_roll" s__law_roll) (by simp [fn])
  obtain ⟨fd8, F8⟩ := d.defs (d := dF "_law_rounds" s__law_rounds) (by simp [fn])
  obtain ⟨fd9, F9⟩ := d.defs (d := dF "_law_before" s__law_before) (by simp [fn])
  obtain ⟨fd10, F10⟩ := d.defs (d := dF "_law_sorted" s__law_sorted) (by simp [fn])
  obtain ⟨x1, x2, x3, x4⟩ := He.exc_ok (d.facts (f := .exc "PlanFault") (by simp [fa]))
  have t : Txt K mg := ⟨x1, glo (by simp [fa]), x2, x3, x4, fre (by simp [fa]), fre (by simp [fa]), fre (by simp [fa]), fre (by simp [fa]), fre (by simp [fa]), fre (by simp [fa]), fre (by simp [fa])⟩
  have hx := He.exm_ok (d.facts (f := .exm "PlanFault" "PlanFault" true) (by simp [fa]))
  have e := hfa.symm.trans (glo (x := "law") (by simp [fa]))
  have e' : f = He.ga K "law" := by
    injection e with e
    injection e
  subst e'
  have b := FunD.bindsA (ps := ["script"]) FL fun _ _ _ _ _ _ us hl => match us, hl with | [_], _ => rfl
  refine ⟨fdL, [He.cT K ("law", none)], spLaw K [(He.cT K ("law", none)).2], fun p hp => ?_, fun p hp => ?_, fun p hp => ?_, fun s u => b s [u] rfl, fun H a ns _ _ hT hS => ⟨a, ns, rfl, hS, fun p hp => ?_, fun H' => rfl⟩, fun base Kb Gb hTB => ?_⟩
  · rw [List.mem_singleton.mp hp]
    exact c.empty _ (by simp [tf])
  · rw [List.mem_singleton.mp hp]
    exact c.out _ (by simp [tf])
  · rw [List.mem_singleton.mp hp]
    exact PySem.W.codeHd_of_K X (c.hd _ (by simp [tf]))
  · rw [List.mem_singleton.mp hp]
    exact hT _ List.mem_cons_self
  · have k1 := cal_ordered_pair (P := (PySem.Challenge.rw_tablestack_k27_sorted_in_runs).prog) (w := w) (base := base) t F1 (glo (by simp [fa]))
    have k9 := cal_law_before (P := (PySem.Challenge.rw_tablestack_k27_sorted_in_runs).prog) (w := w) (base := base) t F9 (glo (by simp [fa]))
    have k2 := cal_merged_pair t k1 F2 (glo (by simp [fa]))
    have k3 := cal_sorted_run t k1 F3 (glo (by simp [fa]))
    exact law_ok t hx FL FT (glo (by simp [fa])) (hTB _ List.mem_cons_self) _ rfl k9 (cal_law_roll t F7 (glo (by simp [fa]))) (cal_law_rounds t (cal_law_dice t F6 (glo (by simp [fa]))) F8 (glo (by simp [fa]))) (cal_law_sorted t k9 F10 (glo (by simp [fa]))) k2 k1
      (cal_run_count t F5 (glo (by simp [fa]))) (cal_sort_rows t k2 k3 F4 (glo (by simp [fa]))) k3
end K27
open PySem PySem.W PySem.Calls PyProof.Rows
theorem PySem.Challenge.cw_tablestack_k27_sorted_in_runs_holds : PySem.Challenge.rw_tablestack_k27_sorted_in_runs.Holds := by
  w_on; o_law
  refine HandSHeadRun.head_any (r := OpenLaw.row PySem.Challenge.rw_tablestack_k27_sorted_in_runs) (q := view (OpenLaw.row PySem.Challenge.rw_tablestack_k27_sorted_in_runs).prog [16]) (H := K27.hk) (ob := K27.ob) (M := 3000) (loose := K27.loose) (d := HandSHeadRun.topDef (OpenLaw.row PySem.Challenge.rw_tablestack_k27_sorted_in_runs).prog 16) (kwd := []) K27.ob_eq
    (by kernel_rfl) (fun s => by kernel_rfl) K27.run (by kernel_rfl) (by kernel_rfl) (by kernel_rfl) (by rfl) (by first | assumption | decide +kernel) (by decide +kernel) ⟨rfl, rfl, rfl, rfl, rfl, by decide +kernel⟩ ?hw ?hc
  case hw => w_witness2
  case hc =>
    refine LamX.walk_ofTsE (l := PySem.Challenge.rw_tablestack_k27_sorted_in_runs) (n := 63) (k := 6) (x := "script") (CX := fun w => L2.CX (PySem.Challenge.rw_tablestack_k27_sorted_in_runs).prog w) rfl (by decide) (by kernel_rfl) ⟨rfl, by decide, by decide⟩ ?F (fun w H s e s' z => ?X)
    case F =>
      intro w mg fa h Y G hmg0
      obtain ⟨K, KX, c⟩ := Y
      have hmg : mg ("law" : PySem.Str) = some (.ref fa) := by
        have e : (HandSHeadRun.topDef (OpenLaw.row PySem.Challenge.rw_tablestack_k27_sorted_in_runs).prog 16).name = ("law" : PySem.Str) := by kernel_rfl
        rw [← e]
        exact hmg0
      exact ⟨K, KX, K27.facts KX G hmg c⟩
    case X =>
      obtain ⟨_, _, _, _, _, _, _, _, _, _, _, _, _, _, _, _, z⟩ := z
