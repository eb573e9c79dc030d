import PyProof.Rows.All
import Wide.All
import OpenK.AllK
import Wide.FinOn
import HandS.Base
import HandS.Call
import HandS.List
import HandS.Comp
import HandS.Iter
import HandS.Exc
import HandS.ExcOwn
import HandS.TupAny
import HandS.Deep
import HandS.IsInst
import HandS.Text
import HandS.Words
import HandS.WordsExc
import HandS.WordsList
import HandS.More
import HandS.TryOnly
import HandS.TryElse
import HandS.ExcIs
import HandS.Defaults
import HandS.Head0
import HandS.Head1
import HandS.Head2
import HandS.HeadEnd
import HandS.HeadHook1
import HandS.HeadHook2
import HandS.HeadHook3
import HandS.HeadHook4
import PySem.Challenge.RW_kingsandcourts_k86_parts_and_places
/-! ## DL1 -/
set_option Elab.async false
set_option linter.all false
set_option autoImplicit false
set_option maxRecDepth 100000
set_option maxHeartbeats 400000
namespace DL
open PySem L2
/-! ### data without a heap -/
inductive D where
  | non | bl (b : Bool) | int (i : Int) | str (x : Str) | ty (n : String) | ptr (a : Addr)
  | tup (xs : List D) | lst (xs : List D)
  | dic (ks : List Key) (vs : List D) | obj (C : Addr) (ns : List Str) (vs : List D)
instance : Inhabited D := ⟨.non⟩
mutual
/-- v stands for d in the heap H -/
def Dn (K : PySem.W.Frag) (H : Hp) (v : V) : D → Prop
  | .non => v = .non
  | .bl b => v = .bl b
  | .int i => v = .int i
  | .str x => v = .str x
  | .ty n => v = .ty n
  | .ptr a => v = .ref a
  | .tup ds => ∃ a xs, v = .ref a ∧ SqT K H a xs ∧ DnL K H xs ds
  | .lst ds => ∃ a xs, v = .ref a ∧ SqL K H a xs ∧ DnL K H xs ds
  | .dic ks ds => ∃ a kvs, v = .ref a ∧ Rd H a (.dK kvs) ∧ kvs.map Prod.fst = ks ∧ DnL K H (kvs.map Prod.snd) ds
  | .obj C ns ds => ∃ a dx fs, v = .ref a ∧ H a = some (.ins C dx fs) ∧ fs.map Prod.fst = ns ∧ DnL K H (fs.map Prod.snd) ds
def DnL (K : PySem.W.Frag) (H : Hp) (vs : List V) : List D → Prop
  | [] => vs = []
  | d :: ds => ∃ v r, vs = v :: r ∧ Dn K H v d ∧ DnL K H r ds
end
def Sub (H H' : Hp) : Prop := ∀ a o, H a = some o → H' a = some o
theorem Sub.refl (H : Hp) : Sub H H := fun _ _ h => h
theorem Sub.trans {A B C : Hp} (h : Sub A B) (k : Sub B C) : Sub A C := fun a o q => k a o (h a o q)
theorem Sub.new {H : Hp} {p : Addr} {o : HO} (h : H p = none) : Sub H (upd H p o) := fun a u e => by
  rw [upd_ne (ne_of_none e h)]; exact e
theorem Sub.rd {H H' : Hp} (s : Sub H H') {a : Addr} {u : HO} (r : Rd H a u) : Rd H' a u := by
  rcases r with r | ⟨o, r⟩
  · exact .inl (s _ _ r)
  · exact .inr ⟨o, s _ _ r⟩
theorem Sub.sqT {K : PySem.W.Frag} {H H' : Hp} (s : Sub H H') {a : Addr} {xs : List V} (h : SqT K H a xs) : SqT K H' a xs := by
  rcases h with h | h
  · exact .inl (s.rd h)
  · exact .inr h
theorem Sub.sqL {K : PySem.W.Frag} {H H' : Hp} (s : Sub H H') {a : Addr} {xs : List V} (h : SqL K H a xs) : SqL K H' a xs := by
  rcases h with h | h
  · exact .inl (s.rd h)
  · exact .inr h
section
variable {K : PySem.W.Frag} {H H' : Hp}
mutual
theorem Dn.mono (s : Sub H H') : ∀ (d : D) {v : V}, Dn K H v d → Dn K H' v d
  | .non, _, h => by unfold Dn at h ⊢; exact h
  | .bl _, _, h => by unfold Dn at h ⊢; exact h
  | .int _, _, h => by unfold Dn at h ⊢; exact h
  | .str _, _, h => by unfold Dn at h ⊢; exact h
  | .ty _, _, h => by unfold Dn at h ⊢; exact h
  | .ptr _, _, h => by unfold Dn at h ⊢; exact h
  | .tup ds, _, h => by
    unfold Dn at h ⊢
    obtain ⟨a, xs, e, q, l⟩ := h
    exact ⟨a, xs, e, s.sqT q, DnL.mono s ds l⟩
  | .lst ds, _, h => by
    unfold Dn at h ⊢
    obtain ⟨a, xs, e, q, l⟩ := h
    exact ⟨a, xs, e, s.sqL q, DnL.mono s ds l⟩
  | .dic ks ds, _, h => by
    unfold Dn at h ⊢
    obtain ⟨a, xs, e, q, n, l⟩ := h
    exact ⟨a, xs, e, s.rd q, n, DnL.mono s ds l⟩
  | .obj C ns ds, _, h => by
    unfold Dn at h ⊢
    obtain ⟨a, dx, xs, e, q, n, l⟩ := h
    exact ⟨a, dx, xs, e, s _ _ q, n, DnL.mono s ds l⟩
theorem DnL.mono (s : Sub H H') : ∀ (ds : List D) {vs : List V}, DnL K H vs ds → DnL K H' vs ds
  | [], _, h => by unfold DnL at h ⊢; exact h
  | d :: ds, _, h => by
    unfold DnL at h ⊢
    obtain ⟨v, r, e, q, l⟩ := h
    exact ⟨v, r, e, Dn.mono s d q, DnL.mono s ds l⟩
end
theorem DnL.nil : DnL K H [] [] := by unfold DnL; rfl
theorem DnL.cons {v : V} {vs : List V} {d : D} {ds : List D} (h : Dn K H v d) (l : DnL K H vs ds) : DnL K H (v :: vs) (d :: ds) := by
  unfold DnL; exact ⟨v, vs, rfl, h, l⟩
theorem DnL.inv {vs : List V} {d : D} {ds : List D} (h : DnL K H vs (d :: ds)) : ∃ v r, vs = v :: r ∧ Dn K H v d ∧ DnL K H r ds := by
  unfold DnL at h; exact h
theorem DnL.inv0 {vs : List V} (h : DnL K H vs []) : vs = [] := by
  unfold DnL at h; exact h
theorem DnL.one {v : V} {d : D} (h : Dn K H v d) : DnL K H [v] [d] := .cons h .nil
theorem DnL.length : ∀ {ds : List D} {vs : List V}, DnL K H vs ds → vs.length = ds.length
  | [], _, h => by rw [h.inv0]; rfl
  | _ :: _, _, h => by
    obtain ⟨v, r, rfl, _, l⟩ := h.inv
    exact congrArg (· + 1) (DnL.length l)
theorem DnL.get : ∀ {ds : List D} {vs : List V} {i : Nat} {v : V}, DnL K H vs ds → vs[i]? = some v → ∃ d, ds[i]? = some d ∧ Dn K H v d
  | [], _, _, _, h, e => by rw [h.inv0] at e; simp at e
  | d :: ds, _, i, w, h, e => by
    obtain ⟨v, r, rfl, q, l⟩ := h.inv
    cases i with
    | zero =>
      simp only [List.getElem?_cons_zero, Option.some.injEq] at e
      subst e
      exact ⟨d, rfl, q⟩
    | succ i =>
      obtain ⟨d, h1, h2⟩ := DnL.get (i := i) (v := w) l (by simpa using e)
      exact ⟨d, by simpa using h1, h2⟩
theorem DnL.getD {ds : List D} {vs : List V} {i : Nat} {d : D} (h : DnL K H vs ds) (e : ds[i]? = some d) : ∃ v, vs[i]? = some v ∧ Dn K H v d := by
  have hl := h.length
  have hi : i < vs.length := by rw [hl]; exact (List.getElem?_eq_some_iff.mp e).1
  obtain ⟨d', h1, h2⟩ := h.get (List.getElem?_eq_getElem hi)
  rw [h1] at e
  cases e
  exact ⟨_, List.getElem?_eq_getElem hi, h2⟩
theorem DnL.append : ∀ {ds : List D} {vs ws : List V} {es : List D}, DnL K H vs ds → DnL K H ws es → DnL K H (vs ++ ws) (ds ++ es)
  | [], _, _, _, h, q => by rw [h.inv0]; exact q
  | d :: ds, _, _, _, h, q => by
    obtain ⟨v, r, rfl, x, l⟩ := h.inv
    exact .cons x (DnL.append l q)
theorem DnL.take : ∀ {ds : List D} {vs : List V} (n : Nat), DnL K H vs ds → DnL K H (vs.take n) (ds.take n)
  | _, _, 0, _ => .nil
  | [], _, _ + 1, h => by rw [h.inv0]; exact .nil
  | d :: ds, _, n + 1, h => by
    obtain ⟨v, r, rfl, x, l⟩ := h.inv
    exact .cons x (DnL.take n l)
theorem DnL.drop : ∀ {ds : List D} {vs : List V} (n : Nat), DnL K H vs ds → DnL K H (vs.drop n) (ds.drop n)
  | _, _, 0, h => h
  | [], _, _ + 1, h => by rw [h.inv0]; exact .nil
  | d :: ds, _, n + 1, h => by
    obtain ⟨v, r, rfl, x, l⟩ := h.inv
    exact DnL.drop n l
theorem DnL.reverse : ∀ {ds : List D} {vs : List V}, DnL K H vs ds → DnL K H vs.reverse ds.reverse
  | [], _, h => by rw [h.inv0]; exact .nil
  | d :: ds, _, h => by
    obtain ⟨v, r, rfl, x, l⟩ := h.inv
    rw [List.reverse_cons, List.reverse_cons]
    exact (DnL.reverse l).append (.one x)
theorem DnL.set {v : V} {d : D} (x : Dn K H v d) : ∀ {ds : List D} {vs : List V} (i : Nat), DnL K H vs ds → DnL K H (vs.set i v) (ds.set i d)
  | [], _, _, h => by rw [h.inv0]; exact .nil
  | _ :: _, _, i, h => by
    obtain ⟨w, r, rfl, y, l⟩ := h.inv
    cases i with
    | zero => exact .cons x l
    | succ i => exact .cons y (DnL.set x i l)
theorem Dn.non : Dn K H .non .non := by unfold Dn; rfl
theorem Dn.bl (b : Bool) : Dn K H (.bl b) (.bl b) := by unfold Dn; rfl
theorem Dn.int (i : Int) : Dn K H (.int i) (.int i) := by unfold Dn; rfl
theorem Dn.str (x : Str) : Dn K H (.str x) (.str x) := by unfold Dn; rfl
theorem Dn.ty (x : String) : Dn K H (.ty x) (.ty x) := by unfold Dn; rfl
theorem Dn.ty' {v : V} {x : String} (h : Dn K H v (.ty x)) : v = .ty x := by unfold Dn at h; exact h
theorem Dn.ptr (x : Addr) : Dn K H (.ref x) (.ptr x) := by unfold Dn; rfl
theorem Dn.ptr' {v : V} {x : Addr} (h : Dn K H v (.ptr x)) : v = .ref x := by unfold Dn at h; exact h
theorem Dn.tup {a : Addr} {xs : List V} {ds : List D} (h : SqT K H a xs) (l : DnL K H xs ds) : Dn K H (.ref a) (.tup ds) := by unfold Dn; exact ⟨a, xs, rfl, h, l⟩
theorem Dn.lst {a : Addr} {xs : List V} {ds : List D} (h : SqL K H a xs) (l : DnL K H xs ds) : Dn K H (.ref a) (.lst ds) := by unfold Dn; exact ⟨a, xs, rfl, h, l⟩
theorem Dn.non' {v : V} (h : Dn K H v .non) : v = .non := by unfold Dn at h; exact h
theorem Dn.bl' {v : V} {b : Bool} (h : Dn K H v (.bl b)) : v = .bl b := by unfold Dn at h; exact h
theorem Dn.int' {v : V} {i : Int} (h : Dn K H v (.int i)) : v = .int i := by unfold Dn at h; exact h
theorem Dn.str' {v : V} {x : Str} (h : Dn K H v (.str x)) : v = .str x := by unfold Dn at h; exact h
theorem Dn.tup' {v : V} {ds : List D} (h : Dn K H v (.tup ds)) : ∃ a xs, v = .ref a ∧ SqT K H a xs ∧ DnL K H xs ds := by unfold Dn at h; exact h
theorem Dn.lst' {v : V} {ds : List D} (h : Dn K H v (.lst ds)) : ∃ a xs, v = .ref a ∧ SqL K H a xs ∧ DnL K H xs ds := by unfold Dn at h; exact h
theorem Dn.dic' {v : V} {ks : List Key} {ds : List D} (h : Dn K H v (.dic ks ds)) : ∃ a kvs, v = .ref a ∧ Rd H a (.dK kvs) ∧ kvs.map Prod.fst = ks ∧ DnL K H (kvs.map Prod.snd) ds := by unfold Dn at h; exact h
theorem Dn.obj' {v : V} {C : Addr} {ns : List Str} {ds : List D} (h : Dn K H v (.obj C ns ds)) : ∃ a dx fs, v = .ref a ∧ H a = some (.ins C dx fs) ∧ fs.map Prod.fst = ns ∧ DnL K H (fs.map Prod.snd) ds := by unfold Dn at h; exact h
/-- an object's own content -/
inductive DnO (K : PySem.W.Frag) (H : Hp) : HO → D → Prop
  | lst {xs : List V} {ds : List D} : DnL K H xs ds → DnO K H (.lst xs) (.lst ds)
  | dK {kvs : List (Key × V)} {ks : List Key} {ds : List D} : kvs.map Prod.fst = ks → DnL K H (kvs.map Prod.snd) ds → DnO K H (.dK kvs) (.dic ks ds)
  | ins {C dx : Addr} {fs : List (Str × V)} {ns : List Str} {ds : List D} : fs.map Prod.fst = ns → DnL K H (fs.map Prod.snd) ds → DnO K H (.ins C dx fs) (.obj C ns ds)
theorem DnO.mono {o : HO} {d : D} (h : DnO K H o d) (s : Sub H H') : DnO K H' o d := by
  cases h with
  | lst l => exact .lst (DnL.mono s _ l)
  | dK e l => exact .dK e (DnL.mono s _ l)
  | ins e l => exact .ins e (DnL.mono s _ l)
theorem DnO.dn {a : Addr} {o : HO} {d : D} (e : H a = some o) (h : DnO K H o d) : Dn K H (.ref a) d := by
  cases h with
  | lst l => exact .lst (SqL.of e) l
  | @dK kvs ks ds q l => unfold Dn; exact ⟨a, kvs, rfl, .inl e, q, l⟩
  | @ins C dx fs ns ds q l => unfold Dn; exact ⟨a, dx, fs, rfl, e, q, l⟩
theorem DnO.mut {o : HO} {d : D} (h : DnO K H o d) : Mut (some o) := by
  cases h <;> trivial
end

/-! ### what the law's draws lean on -/
def RngOk (K : PySem.W.Frag) (R : Option Addr) (c : Nat) (Hb H : Hp) : Prop := ∀ a, R = some a → ∃ (rr : Addr) (ns : List Int) (sd : Int),
  H a = some (.lst [.ref rr, .int c, .int sd]) ∧ SqL K Hb rr (ns.map V.int) ∧ (∀ n ∈ ns, 0 ≤ n ∧ n < 840) ∧ ns.length ≤ 4000 ∧ 0 ≤ sd ∧ sd < 2147483647
/-- all but the state of the draws -/
def Hm (R : Option Addr) (H : Hp) : Hp := fun a => if R = some a then none else H a
theorem Hm.of {R : Option Addr} {H : Hp} {a : Addr} {o : HO} (h : H a = some o) (n : R ≠ some a) : Hm R H a = some o := by unfold Hm; rw [if_neg n]; exact h
theorem Hm.inv {R : Option Addr} {H : Hp} {a : Addr} {o : HO} (h : Hm R H a = some o) : H a = some o ∧ R ≠ some a := by
  unfold Hm at h
  by_cases e : R = some a
  · rw [if_pos e] at h; cases h
  · rw [if_neg e] at h; exact ⟨h, e⟩
/-- what is known of a slot, or of a value on the way -/
inductive Sl where
  | no | im (d : D) | own (d : D) | tmp (d : D) | bor (d : D) | rng
def SlOk (K : PySem.W.Frag) (R : Option Addr) (H0 Hb H : Hp) : Sl → Option V → Prop
  | .no, _ => True
  | .im d, some v => Dn K Hb v d
  | .own d, some v => ∃ a o, v = .ref a ∧ Hb a = none ∧ R ≠ some a ∧ H0 a = none ∧ H a = some o ∧ DnO K Hb o d
  | .tmp d, some v => ∃ a o, v = .ref a ∧ Hb a = none ∧ R ≠ some a ∧ H0 a = none ∧ H a = some o ∧ DnO K Hb o d
  | .bor d, some v => ∃ a o, v = .ref a ∧ R ≠ some a ∧ H a = some o ∧ DnO K Hb o d
  | .rng, some v => ∃ a, v = .ref a ∧ R = some a
  | _, none => False
abbrev LE := List (Sl × Option V)
def OwnAt (L : LE) (i : Nat) (a : Addr) : Prop := ∃ d, L[i]? = some (.own d, some (.ref a)) ∨ L[i]? = some (.tmp d, some (.ref a))
def TmpAt (L : LE) (i : Nat) (a : Addr) : Prop := ∃ d, L[i]? = some (.tmp d, some (.ref a))
def BorAt (L : LE) (i : Nat) (a : Addr) : Prop := ∃ d, L[i]? = some (.bor d, some (.ref a))
structure EnvL (K : PySem.W.Frag) (R : Option Addr) (H0 Hb0 : Hp) (c : Nat) (L : LE) (Hb H : Hp) : Prop where
  keep : ∀ b o, H0 b = some o → R ≠ some b → H b = some o
  bas : Sub Hb0 Hb
  fr : ∀ b o, H0 b = some o → Hb b = Hb0 b
  sub : ∀ b o, Hb b = some o → H b = some o ∧ R ≠ some b
  rng : RngOk K R c Hb H
  it : ∀ (i : Nat) (t : Sl × Option V), L[i]? = some t → SlOk K R H0 Hb H t.1 t.2
  ap : ∀ i j a, OwnAt L i a → OwnAt L j a → i = j
  bt : ∀ i j a, BorAt L i a → ¬ TmpAt L j a
/-- a value at hand: not owned by any slot -/
def ResOk (K : PySem.W.Frag) (R : Option Addr) (H0 : Hp) (L : LE) (Hb H : Hp) (r : Sl) (v : V) : Prop :=
  SlOk K R H0 Hb H r (some v) ∧ r ≠ .no ∧ (((∃ d, r = .own d) ∨ ∃ d, r = .tmp d) → ∀ a, v = .ref a → ∀ i, ¬ OwnAt L i a) ∧ ((∃ d, r = .tmp d) → ∀ a, v = .ref a → ∀ i, ¬ BorAt L i a) ∧ ((∃ d, r = .bor d) → ∀ a, v = .ref a → ∀ i, ¬ TmpAt L i a)
section
variable {K : PySem.W.Frag} {R : Option Addr} {H0 Hb0 Hb H Hb' H' : Hp} {c c' : Nat} {L : LE}
theorem EnvL.subH (e : EnvL K R H0 Hb0 c L Hb H) : Sub Hb H := fun a o h => (e.sub a o h).1
theorem EnvL.subM (e : EnvL K R H0 Hb0 c L Hb H) : Sub Hb (Hm R H) := fun a o h => Hm.of (e.sub a o h).1 (e.sub a o h).2
/-- the heap has grown -/
structure Grow (K : PySem.W.Frag) (R : Option Addr) (c' : Nat) (Hb H Hb' H' : Hp) : Prop where
  g1 : ∀ b o, H b = some o → R ≠ some b → H' b = some o
  g2 : Sub Hb Hb'
  g3 : ∀ b o, H b = some o → Hb' b = Hb b
  g4 : ∀ b o, Hb' b = some o → H' b = some o ∧ R ≠ some b
  g5 : RngOk K R c' Hb' H'
theorem SlOk.grow (e : EnvL K R H0 Hb0 c L Hb H) (g : Grow K R c' Hb H Hb' H') : ∀ {t : Sl} {o : Option V}, SlOk K R H0 Hb H t o → SlOk K R H0 Hb' H' t o
  | .no, _, _ => trivial
  | .im d, some v, h => Dn.mono g.g2 d h
  | .own d, some v, h => by
    obtain ⟨a, o, e1, e2, e3, e4, e5, e6⟩ := h
    exact ⟨a, o, e1, (g.g3 a o e5).trans e2, e3, e4, g.g1 a o e5 e3, e6.mono g.g2⟩
  | .tmp d, some v, h => by
    obtain ⟨a, o, e1, e2, e3, e4, e5, e6⟩ := h
    exact ⟨a, o, e1, (g.g3 a o e5).trans e2, e3, e4, g.g1 a o e5 e3, e6.mono g.g2⟩
  | .bor d, some v, h => by
    obtain ⟨a, o, e1, e3, e5, e6⟩ := h
    exact ⟨a, o, e1, e3, g.g1 a o e5 e3, e6.mono g.g2⟩
  | .rng, some v, h => h
  | .im _, none, h => h.elim
  | .own _, none, h => h.elim
  | .tmp _, none, h => h.elim
  | .bor _, none, h => h.elim
  | .rng, none, h => h.elim
theorem EnvL.grow (e : EnvL K R H0 Hb0 c L Hb H) (g : Grow K R c' Hb H Hb' H') : EnvL K R H0 Hb0 c' L Hb' H' where
  keep b o h n := g.g1 b o (e.keep b o h n) n
  bas := e.bas.trans g.g2
  fr b o h := by
    by_cases n : R = some b
    · have z : ∀ {X Y : Hp}, (∀ b o, X b = some o → Y b = some o ∧ R ≠ some b) → X b = none := fun {X Y} q => by
        cases z : X b with
        | none => rfl
        | some u => exact absurd n (q b u z).2
      rw [z g.g4]
      have := z e.sub
      cases q : Hb0 b with
      | none => rfl
      | some u => rw [e.bas b u q] at this; cases this
    · rw [g.g3 b o (e.keep b o h n)]
      exact e.fr b o h
  sub := g.g4
  rng := g.g5
  it i t h := (e.it i t h).grow e g
  ap := e.ap
  bt := e.bt
theorem ResOk.grow (e : EnvL K R H0 Hb0 c L Hb H) (g : Grow K R c' Hb H Hb' H') {r : Sl} {v : V} (h : ResOk K R H0 L Hb H r v) : ResOk K R H0 L Hb' H' r v := ⟨h.1.grow e g, h.2⟩
theorem Grow.refl (e : EnvL K R H0 Hb0 c L Hb H) : Grow K R c Hb H Hb H := ⟨fun _ _ h _ => h, Sub.refl _, fun _ _ _ => rfl, e.sub, e.rng⟩
theorem RngOk.mono (r : RngOk K R c Hb H) (h1 : Sub Hb Hb') (h2 : ∀ a o, R = some a → H a = some o → H' a = some o) : RngOk K R c Hb' H' := fun a ha => by
  obtain ⟨rr, ns, sd, e1, e2, e3⟩ := r a ha
  exact ⟨rr, ns, sd, h2 a _ ha e1, h1.sqL e2, e3⟩
theorem EnvL.rfresh (e : EnvL K R H0 Hb0 c L Hb H) {p : Addr} (hp : H p = none) : R ≠ some p := fun z => by
  obtain ⟨rr, ns, sd, e1, _⟩ := e.rng p z
  rw [hp] at e1; cases e1
theorem EnvL.bfresh (e : EnvL K R H0 Hb0 c L Hb H) {p : Addr} (hp : H p = none) : Hb p = none := by
  cases z : Hb p with
  | none => rfl
  | some u => rw [(e.sub p u z).1] at hp; cases hp
theorem EnvL.h0fresh (e : EnvL K R H0 Hb0 c L Hb H) {p : Addr} (hp : H p = none) : H0 p = none := by
  cases z : H0 p with
  | none => rfl
  | some u => rw [e.keep p u z (e.rfresh hp)] at hp; cases hp
/-- a new object, not known below -/
theorem Grow.new (e : EnvL K R H0 Hb0 c L Hb H) {p : Addr} {o : HO} (hp : H p = none) : Grow K R c Hb H Hb (upd H p o) :=
  ⟨fun b u h _ => Sub.new hp b u h, Sub.refl _, fun _ _ _ => rfl, fun b u h => ⟨Sub.new hp b u (e.sub b u h).1, (e.sub b u h).2⟩, e.rng.mono (Sub.refl _) fun a u _ h => Sub.new hp a u h⟩
/-- .. and known below -/
theorem Grow.newB (e : EnvL K R H0 Hb0 c L Hb H) {p : Addr} {o : HO} (hp : H p = none) : Grow K R c Hb H (upd Hb p o) (upd H p o) := by
  have hb := e.bfresh hp
  refine ⟨fun b u h _ => Sub.new hp b u h, Sub.new hb, fun b u h => ?_, fun b u h => ?_, e.rng.mono (Sub.new hb) fun a u _ h => Sub.new hp a u h⟩
  · exact upd_ne (ne_of_none h hp)
  · by_cases z : b = p
    · subst z
      rw [upd_same] at h
      cases h
      exact ⟨upd_same, e.rfresh hp⟩
    · rw [upd_ne z] at h
      rw [upd_ne z]
      exact e.sub b u h
theorem SlOk.below {a : Addr} {o : HO} (s : Sub Hb (upd Hb a o)) : ∀ {t : Sl} {u : Option V}, (∀ d b, (t = .own d ∨ t = .tmp d) → u = some (.ref b) → b ≠ a) → SlOk K R H0 Hb H t u → SlOk K R H0 (upd Hb a o) H t u
  | .no, _, _, _ => trivial
  | .im d, some v, _, h => Dn.mono s d h
  | .own d, some v, n, h => by
    obtain ⟨b, o', f1, f2, f3, f4, f5, f6⟩ := h
    subst f1
    exact ⟨b, o', rfl, by rw [upd_ne (n d b (.inl rfl) rfl)]; exact f2, f3, f4, f5, f6.mono s⟩
  | .tmp d, some v, n, h => by
    obtain ⟨b, o', f1, f2, f3, f4, f5, f6⟩ := h
    subst f1
    exact ⟨b, o', rfl, by rw [upd_ne (n d b (.inr rfl) rfl)]; exact f2, f3, f4, f5, f6.mono s⟩
  | .bor d, some v, _, h => by
    obtain ⟨b, o', f1, f3, f5, f6⟩ := h
    exact ⟨b, o', f1, f3, f5, f6.mono s⟩
  | .rng, some v, _, h => h
  | .im _, none, _, h => h.elim
  | .own _, none, _, h => h.elim
  | .tmp _, none, _, h => h.elim
  | .bor _, none, _, h => h.elim
  | .rng, none, _, h => h.elim
/-- an own value is known below from now on -/
theorem EnvL.freeze (e : EnvL K R H0 Hb0 c L Hb H) {a : Addr} {d : D} (h : ResOk K R H0 L Hb H (.own d) (.ref a)) : ∃ Hb', EnvL K R H0 Hb0 c L Hb' H ∧ Dn K Hb' (.ref a) d ∧ Sub Hb Hb' := by
  obtain ⟨⟨a', o, e1, e2, e3, e4, e5, e6⟩, _, h2, _⟩ := h
  cases e1
  have s := Sub.new (o := o) e2
  refine ⟨upd Hb a o, ⟨e.keep, e.bas.trans s, fun b u q => ?_, fun b u q => ?_, e.rng.mono s fun _ _ _ q => q, fun i t q => ?_, e.ap, e.bt⟩, DnO.dn upd_same (e6.mono s), s⟩
  · have : b ≠ a := fun z => by rw [z, e4] at q; cases q
    rw [upd_ne this]
    exact e.fr b u q
  · by_cases z : b = a
    · subst z
      rw [upd_same] at q
      cases q
      exact ⟨e5, e3⟩
    · rw [upd_ne z] at q
      exact e.sub b u q
  · refine SlOk.below s (fun d' b hd hb z => ?_) (e.it i t q)
    subst z
    obtain ⟨t1, t2⟩ := t
    have hb : t2 = some (.ref b) := hb
    subst hb
    rcases hd with z | z
    · have z : t1 = .own d' := z
      subst z
      exact h2 (.inl ⟨d, rfl⟩) b rfl i ⟨d', .inl q⟩
    · have z : t1 = .tmp d' := z
      subst z
      exact h2 (.inl ⟨d, rfl⟩) b rfl i ⟨d', .inr q⟩
theorem snoc_get {t' t : Sl × Option V} {i : Nat} (q : (L ++ [t'])[i]? = some t) : (L[i]? = some t ∧ i < L.length) ∨ (i = L.length ∧ t = t') := by
  by_cases hi : i < L.length
  · rw [List.getElem?_append_left hi] at q
    exact .inl ⟨q, hi⟩
  · rw [List.getElem?_append_right (by omega)] at q
    have hz : i - L.length = 0 := by
      by_cases hz : i - L.length = 0
      · exact hz
      · rw [List.getElem?_eq_none (by simp; omega)] at q
        cases q
    rw [hz] at q
    simp only [List.getElem?_cons_zero, Option.some.injEq] at q
    exact .inr ⟨by omega, q.symm⟩
theorem snoc_own {r : Sl} {v : Option V} {i : Nat} {a : Addr} (h : OwnAt (L ++ [(r, v)]) i a) : OwnAt L i a ∨ (i = L.length ∧ v = some (.ref a) ∧ ((∃ d, r = .own d) ∨ ∃ d, r = .tmp d)) := by
  obtain ⟨d, h | h⟩ := h
  · rcases snoc_get h with ⟨q, _⟩ | ⟨e, q⟩
    · exact .inl ⟨d, .inl q⟩
    · cases q; exact .inr ⟨e, rfl, .inl ⟨d, rfl⟩⟩
  · rcases snoc_get h with ⟨q, _⟩ | ⟨e, q⟩
    · exact .inl ⟨d, .inr q⟩
    · cases q; exact .inr ⟨e, rfl, .inr ⟨d, rfl⟩⟩
/-- a value at hand is put at the end -/
theorem EnvL.push (e : EnvL K R H0 Hb0 c L Hb H) {r : Sl} {v : V} (h : ResOk K R H0 L Hb H r v) : EnvL K R H0 Hb0 c (L ++ [(r, some v)]) Hb H := by
  refine ⟨e.keep, e.bas, e.fr, e.sub, e.rng, fun i t q => ?_, fun i j a hi hj => ?_, fun i j a hi hj => ?_⟩
  · rcases snoc_get q with ⟨q, _⟩ | ⟨_, rfl⟩
    · exact e.it i t q
    · exact h.1
  · rcases snoc_own hi with z1 | ⟨z1, y1, w1⟩
    · rcases snoc_own hj with z2 | ⟨z2, y2, w2⟩
      · exact e.ap i j a z1 z2
      · exact absurd z1 (h.2.2.1 w2 a (Option.some.inj y2) i)
    · rcases snoc_own hj with z2 | ⟨z2, y2, w2⟩
      · exact absurd z2 (h.2.2.1 w1 a (Option.some.inj y1) j)
      · rw [z1, z2]
  · obtain ⟨d1, q1⟩ := hi
    obtain ⟨d2, q2⟩ := hj
    rcases snoc_get q1 with ⟨z1, _⟩ | ⟨_, y1⟩
    · rcases snoc_get q2 with ⟨z2, _⟩ | ⟨_, y2⟩
      · exact e.bt i j a ⟨d1, z1⟩ ⟨d2, z2⟩
      · cases y2
        exact h.2.2.2.1 ⟨d2, rfl⟩ a rfl i ⟨d1, z1⟩
    · rcases snoc_get q2 with ⟨z2, _⟩ | ⟨_, y2⟩
      · cases y1
        exact h.2.2.2.2 ⟨d1, rfl⟩ a rfl j ⟨d2, z2⟩
      · cases y1
        cases y2
/-- slots are forgotten, or known less of -/
theorem EnvL.weak {L' : LE} (e : EnvL K R H0 Hb0 c L Hb H) (h : ∀ (i : Nat) (t : Sl × Option V), L'[i]? = some t → t.1 = .no ∨ L[i]? = some t) : EnvL K R H0 Hb0 c L' Hb H := by
  have key : ∀ i a, OwnAt L' i a → OwnAt L i a := fun i a ⟨d, q⟩ => by
    rcases q with q | q
    · rcases h _ _ q with z | z
      · cases z
      · exact ⟨d, .inl z⟩
    · rcases h _ _ q with z | z
      · cases z
      · exact ⟨d, .inr z⟩
  refine ⟨e.keep, e.bas, e.fr, e.sub, e.rng, fun i t q => ?_, fun i j a q1 q2 => e.ap i j a (key i a q1) (key j a q2), fun i j a ⟨d1, q1⟩ ⟨d2, q2⟩ => ?_⟩
  · rcases h i t q with z | z
    · obtain ⟨t1, t2⟩ := t
      cases z
      trivial
    · exact e.it i t z
  · rcases h _ _ q1 with z1 | z1
    · cases z1
    · rcases h _ _ q2 with z2 | z2
      · cases z2
      · exact e.bt i j a ⟨d1, z1⟩ ⟨d2, z2⟩
theorem EnvL.pop {t : Sl × Option V} (e : EnvL K R H0 Hb0 c (L ++ [t]) Hb H) : EnvL K R H0 Hb0 c L Hb H :=
  e.weak fun i t' q => .inr (by rw [List.getElem?_append_left (List.getElem?_eq_some_iff.mp q).1]; exact q)
theorem EnvL.top {t : Sl × Option V} (e : EnvL K R H0 Hb0 c (L ++ [t]) Hb H) : SlOk K R H0 Hb H t.1 t.2 := e.it L.length t (by simp)
/-- .. the value at the end taken off, as one at hand -/
theorem EnvL.topR {r : Sl} {v : V} (e : EnvL K R H0 Hb0 c (L ++ [(r, some v)]) Hb H) (hr : r ≠ .no) : ResOk K R H0 L Hb H r v := by
  have lf : ∀ i t, L[i]? = some t → (L ++ [(r, some v)])[i]? = some t := fun i t q => by
    rw [List.getElem?_append_left (List.getElem?_eq_some_iff.mp q).1]; exact q
  have last : (L ++ [(r, some v)])[L.length]? = some (r, some v) := by simp
  refine ⟨e.top, hr, fun hd a ha i ho => ?_, fun ⟨d, hd⟩ a ha i ⟨d', q⟩ => ?_, fun ⟨d, hd⟩ a ha i ⟨d', q⟩ => ?_⟩
  · subst ha
    have ho' : OwnAt (L ++ [(r, some (.ref a))]) i a := by
      obtain ⟨d, q | q⟩ := ho
      · exact ⟨d, .inl (lf _ _ q)⟩
      · exact ⟨d, .inr (lf _ _ q)⟩
    have ho2 : OwnAt (L ++ [(r, some (.ref a))]) L.length a := by
      rcases hd with ⟨d, rfl⟩ | ⟨d, rfl⟩
      · exact ⟨d, .inl last⟩
      · exact ⟨d, .inr last⟩
    have := e.ap _ _ _ ho' ho2
    obtain ⟨d, q | q⟩ := ho <;> (have := (List.getElem?_eq_some_iff.mp q).1; omega)
  · subst ha hd
    exact e.bt i L.length a ⟨d', lf _ _ q⟩ ⟨d, last⟩
  · subst ha hd
    exact e.bt L.length i a ⟨d, last⟩ ⟨d', lf _ _ q⟩
theorem set_get {t' t : Sl × Option V} {i j : Nat} (q : (L.set i t')[j]? = some t) : (j ≠ i ∧ L[j]? = some t) ∨ (j = i ∧ t = t' ∧ i < L.length) := by
  by_cases z : i = j
  · subst z
    have hl : i < L.length := by
      have := (List.getElem?_eq_some_iff.mp q).1
      simpa using this
    rw [List.getElem?_set_self hl] at q
    exact .inr ⟨rfl, (Option.some.inj q).symm, hl⟩
  · rw [List.getElem?_set_ne z] at q
    exact .inl ⟨fun y => z y.symm, q⟩
/-- a slot is set to a value at hand -/
theorem EnvL.set (e : EnvL K R H0 Hb0 c L Hb H) {r : Sl} {v : V} (h : ResOk K R H0 L Hb H r v) (nb : ∀ d, r ≠ .bor d) (nt : ∀ d, r ≠ .tmp d) (i : Nat) : EnvL K R H0 Hb0 c (L.set i (r, some v)) Hb H := by
  have own : ∀ j a, OwnAt (L.set i (r, some v)) j a → (j ≠ i ∧ OwnAt L j a) ∨ (j = i ∧ v = .ref a ∧ ∃ d, r = .own d) := fun j a ⟨d, q⟩ => by
    rcases q with q | q
    · rcases set_get q with ⟨z, q⟩ | ⟨z, q, _⟩
      · exact .inl ⟨z, d, .inl q⟩
      · cases q; exact .inr ⟨z, rfl, d, rfl⟩
    · rcases set_get q with ⟨z, q⟩ | ⟨z, q, _⟩
      · exact .inl ⟨z, d, .inr q⟩
      · cases q; exact absurd rfl (nt d)
  refine ⟨e.keep, e.bas, e.fr, e.sub, e.rng, fun j t q => ?_, fun j k a hj hk => ?_, fun j k a ⟨d1, q1⟩ ⟨d2, q2⟩ => ?_⟩
  · rcases set_get q with ⟨_, q⟩ | ⟨_, rfl, _⟩
    · exact e.it j t q
    · exact h.1
  · rcases own j a hj with ⟨_, z1⟩ | ⟨z1, y1, w1⟩
    · rcases own k a hk with ⟨_, z2⟩ | ⟨z2, y2, w2⟩
      · exact e.ap j k a z1 z2
      · exact absurd z1 (h.2.2.1 (.inl w2) a y2 j)
    · rcases own k a hk with ⟨_, z2⟩ | ⟨z2, y2, w2⟩
      · exact absurd z2 (h.2.2.1 (.inl w1) a y1 k)
      · rw [z1, z2]
  · rcases set_get q1 with ⟨_, z1⟩ | ⟨_, y1, _⟩
    · rcases set_get q2 with ⟨_, z2⟩ | ⟨_, y2, _⟩
      · exact e.bt j k a ⟨d1, z1⟩ ⟨d2, z2⟩
      · cases y2; exact nt d2 rfl
    · cases y1; exact nb d1 rfl
theorem SlOk.other {a : Addr} {o' : HO} : ∀ {t : Sl} {u : Option V}, (∀ d b, (t = .own d ∨ t = .tmp d ∨ t = .bor d) → u = some (.ref b) → b ≠ a) → SlOk K R H0 Hb H t u → SlOk K R H0 Hb (upd H a o') t u
  | .no, _, _, _ => trivial
  | .im d, some v, _, h => h
  | .own d, some v, n, h => by
    obtain ⟨b, o, f1, f2, f3, f4, f5, f6⟩ := h
    subst f1
    exact ⟨b, o, rfl, f2, f3, f4, by rw [upd_ne (n d b (.inl rfl) rfl)]; exact f5, f6⟩
  | .tmp d, some v, n, h => by
    obtain ⟨b, o, f1, f2, f3, f4, f5, f6⟩ := h
    subst f1
    exact ⟨b, o, rfl, f2, f3, f4, by rw [upd_ne (n d b (.inr (.inl rfl)) rfl)]; exact f5, f6⟩
  | .bor d, some v, n, h => by
    obtain ⟨b, o, f1, f3, f5, f6⟩ := h
    subst f1
    exact ⟨b, o, rfl, f3, by rw [upd_ne (n d b (.inr (.inr rfl)) rfl)]; exact f5, f6⟩
  | .rng, some v, _, h => h
  | .im _, none, _, h => h.elim
  | .own _, none, _, h => h.elim
  | .tmp _, none, _, h => h.elim
  | .bor _, none, _, h => h.elim
  | .rng, none, _, h => h.elim
/-- an own object is written -/
theorem EnvL.write (e : EnvL K R H0 Hb0 c L Hb H) {i : Nat} {a : Addr} {r r' : Sl} {d d' : D} {o' : HO} (hi : L[i]? = some (r, some (.ref a))) (hr : (r = .own d ∧ r' = .own d' ∧ ∀ j b, ¬ BorAt L j b) ∨ (r = .tmp d ∧ r' = .tmp d')) (ho : DnO K Hb o' d') :
    EnvL K R H0 Hb0 c (L.set i (r', some (.ref a))) Hb (upd H a o') := by
  have hown : OwnAt L i a := by
    rcases hr with ⟨rfl, _⟩ | ⟨rfl, _⟩
    · exact ⟨d, .inl hi⟩
    · exact ⟨d, .inr hi⟩
  obtain ⟨o, e2, e3, e4, e5, e6⟩ : ∃ o, Hb a = none ∧ R ≠ some a ∧ H0 a = none ∧ H a = some o ∧ DnO K Hb o d := by
    have w := e.it i _ hi
    rcases hr with ⟨rfl, _⟩ | ⟨rfl, _⟩
    · obtain ⟨a', o, e1, r⟩ := w
      cases e1
      exact ⟨o, r⟩
    · obtain ⟨a', o, e1, r⟩ := w
      cases e1
      exact ⟨o, r⟩
  have new : SlOk K R H0 Hb (upd H a o') r' (some (.ref a)) := by
    rcases hr with ⟨_, rfl, _⟩ | ⟨_, rfl⟩
    · exact ⟨a, o', rfl, e2, e3, e4, upd_same, ho⟩
    · exact ⟨a, o', rfl, e2, e3, e4, upd_same, ho⟩
  have own : ∀ j b, OwnAt (L.set i (r', some (.ref a))) j b → OwnAt L j b := fun j b ⟨x, q⟩ => by
    rcases q with q | q
    · rcases set_get q with ⟨_, q⟩ | ⟨rfl, q, _⟩
      · exact ⟨x, .inl q⟩
      · cases q; exact hown
    · rcases set_get q with ⟨_, q⟩ | ⟨rfl, q, _⟩
      · exact ⟨x, .inr q⟩
      · cases q; exact hown
  have bor : ∀ j b, BorAt (L.set i (r', some (.ref a))) j b → BorAt L j b := fun j b ⟨x, q⟩ => by
    rcases set_get q with ⟨_, q⟩ | ⟨rfl, q, _⟩
    · exact ⟨x, q⟩
    · cases q
      rcases hr with ⟨_, z, _⟩ | ⟨_, z⟩ <;> cases z
  have tmp : ∀ j b, TmpAt (L.set i (r', some (.ref a))) j b → TmpAt L j b := fun j b ⟨x, q⟩ => by
    rcases set_get q with ⟨_, q⟩ | ⟨rfl, q, _⟩
    · exact ⟨x, q⟩
    · cases q
      rcases hr with ⟨_, z, _⟩ | ⟨z1, z⟩
      · cases z
      · subst z1
        exact ⟨d, hi⟩
  refine ⟨fun b u h n => ?_, e.bas, e.fr, fun b u h => ?_, e.rng.mono (Sub.refl _) fun b u hb h => ?_, fun j t q => ?_, fun j k b hj hk => e.ap j k b (own j b hj) (own k b hk), fun j k b hj hk => e.bt j k b (bor j b hj) (tmp k b hk)⟩
  · have : b ≠ a := fun z => by rw [z, e4] at h; cases h
    rw [upd_ne this]
    exact e.keep b u h n
  · have : b ≠ a := fun z => by rw [z, e2] at h; cases h
    rw [upd_ne this]
    exact e.sub b u h
  · have : b ≠ a := fun z => by rw [z] at hb; exact e3 hb
    rw [upd_ne this]
    exact h
  · rcases set_get q with ⟨z, q'⟩ | ⟨_, rfl, _⟩
    · refine SlOk.other (fun x b hx hb y => ?_) (e.it j t q')
      subst y
      obtain ⟨t1, t2⟩ := t
      have hb : t2 = some (.ref b) := hb
      subst hb
      rcases hx with y | y | y
      · have y : t1 = .own x := y
        subst y
        exact z (e.ap j i b ⟨x, .inl q'⟩ hown)
      · have y : t1 = .tmp x := y
        subst y
        exact z (e.ap j i b ⟨x, .inr q'⟩ hown)
      · have y : t1 = .bor x := y
        subst y
        rcases hr with ⟨_, _, nb⟩ | ⟨rfl, _⟩
        · exact nb j b ⟨x, q'⟩
        · exact e.bt j i b ⟨x, q'⟩ ⟨d, hi⟩
    · exact new
end
end DL

/-! ## DL2 -/
set_option Elab.async false
set_option linter.all false
set_option autoImplicit false
set_option maxRecDepth 100000
set_option maxHeartbeats 400000
namespace DL
open PySem L2
/-! ### the state, what is wanted -/
structure S where
  c : Nat
  Γ : List Sl
  b : Bool
structure XD where
  cls : Value
  fs : Option (List (Str × V))
def XOk (x : XD) (cls : Value) (d : Option Addr) (H : Hp) : Prop := cls = x.cls ∧ match x.fs with
  | none => d = none
  | some fs => ∃ a, d = some a ∧ H a = some (.xd fs)
abbrev KX := S → XD → Prop
abbrev SE := S → (S → Sl → Prop) → KX → Prop
abbrev SA := S → (S → List Sl → Prop) → KX → Prop
abbrev ST := S → (S → Bool → Prop) → KX → Prop
def imm : Sl → Sl
  | .own d => .im d
  | r => r
def pend : Sl → S → S
  | .bor _, s => { s with b := true }
  | _, s => s
structure Env (K : PySem.W.Frag) (R : Option Addr) (H0 Hb0 : Hp) (s : S) (σ : St) (τ : LE) (Hb H : Hp) : Prop where
  len : s.Γ.length = σ.length
  nb : ∀ t ∈ s.Γ, ∀ d, t ≠ .bor d
  nbt : s.b = false → ∀ t ∈ τ, ∀ d, t.1 ≠ .bor d
  e : EnvL K R H0 Hb0 s.c (s.Γ.zip σ ++ τ) Hb H
section
variable {K : PySem.W.Frag} {R : Option Addr} {H0 Hb0 Hb H Hb' H' : Hp} {s : S} {σ : St} {τ : LE} {r : Sl} {v : V}
theorem ResOk.im {L : LE} {d : D} (h : Dn K Hb v d) : ResOk K R H0 L Hb H (.im d) v := ⟨h, by simp, fun z => by simp at z, fun ⟨_, z⟩ => by simp at z, fun ⟨_, z⟩ => by simp at z⟩
theorem ResOk.rng {L : LE} (h : SlOk K R H0 Hb H .rng (some v)) : ResOk K R H0 L Hb H .rng v := ⟨h, by simp, fun z => by simp at z, fun ⟨_, z⟩ => by simp at z, fun ⟨_, z⟩ => by simp at z⟩
theorem Env.grow {c' : Nat} (e : Env K R H0 Hb0 s σ τ Hb H) (g : Grow K R c' Hb H Hb' H') : Env K R H0 Hb0 { s with c := c' } σ τ Hb' H' := ⟨e.len, e.nb, e.nbt, e.e.grow g⟩
theorem imm_ne (h : r ≠ .no) : imm r ≠ .no := by cases r <;> simp_all [imm]
theorem imm_own {d : D} : imm r ≠ .own d := by cases r <;> simp [imm]
theorem Env.imm (e : Env K R H0 Hb0 s σ τ Hb H) (h : ResOk K R H0 (s.Γ.zip σ ++ τ) Hb H r v) : ∃ Hb', Env K R H0 Hb0 s σ τ Hb' H ∧ ResOk K R H0 (s.Γ.zip σ ++ τ) Hb' H (imm r) v := by
  cases r with
  | own d =>
    obtain ⟨a, o, rfl, _⟩ := id h.1
    obtain ⟨Hb', e', q, _⟩ := e.e.freeze h
    exact ⟨Hb', ⟨e.len, e.nb, e.nbt, e'⟩, ResOk.im q⟩
  | no => exact absurd rfl h.2.1
  | im d => exact ⟨Hb, e, h⟩
  | bor d => exact ⟨Hb, e, h⟩
  | rng => exact ⟨Hb, e, h⟩
  | tmp d => exact ⟨Hb, e, h⟩
theorem Env.push (e : Env K R H0 Hb0 s σ τ Hb H) (h : ResOk K R H0 (s.Γ.zip σ ++ τ) Hb H r v) : Env K R H0 Hb0 (pend r s) σ (τ ++ [(r, some v)]) Hb H := by
  have q := e.e.push h
  rw [List.append_assoc] at q
  cases r with
  | bor d => exact ⟨e.len, e.nb, fun z => by simp [pend] at z, q⟩
  | _ =>
    refine ⟨e.len, e.nb, fun z t ht d => ?_, q⟩
    rcases List.mem_append.mp ht with ht | ht
    · exact e.nbt z t ht d
    · rw [List.mem_singleton.mp ht]
      simp
theorem Env.pop {t : Sl × Option V} (e : Env K R H0 Hb0 s σ (τ ++ [t]) Hb H) : Env K R H0 Hb0 s σ τ Hb H := by
  refine ⟨e.len, e.nb, fun z t' ht d => e.nbt z t' (List.mem_append_left _ ht) d, ?_⟩
  have q := e.e
  rw [← List.append_assoc] at q
  exact q.pop
theorem Env.top {t : Sl × Option V} (e : Env K R H0 Hb0 s σ (τ ++ [t]) Hb H) : SlOk K R H0 Hb H t.1 t.2 := by
  have q := e.e
  rw [← List.append_assoc] at q
  exact q.top
theorem Env.unb {b : Bool} (e : Env K R H0 Hb0 s σ τ Hb H) (h : b = false → ∀ t ∈ τ, ∀ d, t.1 ≠ .bor d) : Env K R H0 Hb0 { s with b := b } σ τ Hb H := ⟨e.len, e.nb, h, e.e⟩
end
/-! ### readings without a heap -/
def KOk (K : PySem.W.Frag) (R : Option Addr) (H0 Hb0 : Hp) (b : Bool) (σ : St) (τ : LE) (k : S → Sl → Prop) (Q : VK) : Prop :=
  ∀ s' r, k s' r → ∀ v Hb' H', Env K R H0 Hb0 s' σ τ Hb' H' → s'.b = b → ResOk K R H0 (s'.Γ.zip σ ++ τ) Hb' H' r v → Q v H'
def XKOk (K : PySem.W.Frag) (W : WX) (R : Option Addr) (H0 Hb0 : Hp) (σ : St) (τ : LE) (kx : KX) : Prop :=
  ∀ s' x, kx s' x → ∀ cls d Hb' H', Env K R H0 Hb0 s' σ τ Hb' H' → XOk x cls d H' → W cls d σ H'
theorem XKOk.pop {K : PySem.W.Frag} {W : WX} {R : Option Addr} {H0 Hb0 : Hp} {σ : St} {τ : LE} {kx : KX} {t : Sl × Option V} (h : XKOk K W R H0 Hb0 σ τ kx) : XKOk K W R H0 Hb0 σ (τ ++ [t]) kx :=
  fun s' x q cls d Hb' H' e xo => h s' x q cls d Hb' H' e.pop xo
def GoodE (K : PySem.W.Frag) (W : WX) (te : TE) (f : SE) : Prop :=
  ∀ R H0 Hb0 s σ τ Hb H Q k kx, Env K R H0 Hb0 s σ τ Hb H → f s k kx → KOk K R H0 Hb0 s.b σ τ k Q → XKOk K W R H0 Hb0 σ τ kx → te σ H Q
def tD (K : PySem.W.Frag) (W : WX) (f : SE) : TE := fun σ H Q =>
  ∃ R H0 Hb0 s τ Hb k kx, Env K R H0 Hb0 s σ τ Hb H ∧ f s k kx ∧ KOk K R H0 Hb0 s.b σ τ k Q ∧ XKOk K W R H0 Hb0 σ τ kx
theorem goodD {K : PySem.W.Frag} {W : WX} {f : SE} : GoodE K W (tD K W f) f := fun R H0 Hb0 s σ τ Hb H Q k kx e hf hk hx => ⟨R, H0, Hb0, s, τ, Hb, k, kx, e, hf, hk, hx⟩
theorem PE.imp {X : Cx} {e : Expr} {t t' : TE} (h : PE X e t) (w : ∀ σ H Q, t' σ H Q → t σ H Q) : PE X e t' := ⟨fun pins s σ H Q I q => h.run pins s σ H Q I (w σ H Q q)⟩
theorem deG {X : Cx} {W : WX} {e : Expr} {te : TE} {f : SE} (h : PE X e te) (g : GoodE X.K W te f) : PE X e (tD X.K W f) :=
  PE.imp h fun σ H Q ⟨R, H0, Hb0, s, τ, Hb, k, kx, e, hf, hk, hx⟩ => g R H0 Hb0 s σ τ Hb H Q k kx e hf hk hx
/-! arguments -/
def ArgsOk (K : PySem.W.Frag) (R : Option Addr) (H0 Hb H : Hp) : List Sl → List V → Prop
  | [], vs => vs = []
  | a :: as, vs => ∃ v r, vs = v :: r ∧ SlOk K R H0 Hb H a (some v) ∧ a ≠ .no ∧ (∀ d, a ≠ .own d) ∧ ArgsOk K R H0 Hb H as r
def GoodA (K : PySem.W.Frag) (W : WX) (ta : TA) (f : SA) : Prop :=
  ∀ R H0 Hb0 s σ τ Hb H (Q : List V → Hp → Prop) k kx, Env K R H0 Hb0 s σ τ Hb H → f s k kx →
    (∀ s' as, k s' as → ∀ vs Hb' H', Env K R H0 Hb0 s' σ τ Hb' H' → s'.b = s.b → ArgsOk K R H0 Hb' H' as vs → Q vs H') → XKOk K W R H0 Hb0 σ τ kx → ta σ H Q
def tA (K : PySem.W.Frag) (W : WX) (f : SA) : TA := fun σ H Q =>
  ∃ R H0 Hb0 s τ Hb k kx, Env K R H0 Hb0 s σ τ Hb H ∧ f s k kx ∧
    (∀ s' as, k s' as → ∀ vs Hb' H', Env K R H0 Hb0 s' σ τ Hb' H' → s'.b = s.b → ArgsOk K R H0 Hb' H' as vs → Q vs H') ∧ XKOk K W R H0 Hb0 σ τ kx
theorem goodA {K : PySem.W.Frag} {W : WX} {f : SA} : GoodA K W (tA K W f) f := fun R H0 Hb0 s σ τ Hb H Q k kx e hf hk hx => ⟨R, H0, Hb0, s, τ, Hb, k, kx, e, hf, hk, hx⟩
theorem daG {X : Cx} {W : WX} {es : List Expr} {ta : TA} {f : SA} (h : PA X es ta) (g : GoodA X.K W ta f) : PA X es (tA X.K W f) :=
  ⟨fun pos pins s σ H Q I ⟨R, H0, Hb0, s', τ, Hb, k, kx, e, hf, hk, hx⟩ => h.run pos pins s σ H Q I (g R H0 Hb0 s' σ τ Hb H Q k kx e hf hk hx)⟩
/-! tests -/
def GoodT (K : PySem.W.Frag) (W : WX) (tt : TT) (f : ST) : Prop :=
  ∀ R H0 Hb0 s σ τ Hb H (Q : Bool → Hp → Prop) k kx, Env K R H0 Hb0 s σ τ Hb H → f s k kx →
    (∀ s' b, k s' b → ∀ Hb' H', Env K R H0 Hb0 s' σ τ Hb' H' → s'.b = s.b → Q b H') → XKOk K W R H0 Hb0 σ τ kx → tt σ H Q
def tT (K : PySem.W.Frag) (W : WX) (f : ST) : TT := fun σ H Q =>
  ∃ R H0 Hb0 s τ Hb k kx, Env K R H0 Hb0 s σ τ Hb H ∧ f s k kx ∧
    (∀ s' b, k s' b → ∀ Hb' H', Env K R H0 Hb0 s' σ τ Hb' H' → s'.b = s.b → Q b H') ∧ XKOk K W R H0 Hb0 σ τ kx
theorem goodT {K : PySem.W.Frag} {W : WX} {f : ST} : GoodT K W (tT K W f) f := fun R H0 Hb0 s σ τ Hb H Q k kx e hf hk hx => ⟨R, H0, Hb0, s, τ, Hb, k, kx, e, hf, hk, hx⟩
theorem dtG {X : Cx} {W : WX} {e : Expr} {tt : TT} {f : ST} (h : PT X e tt) (g : GoodT X.K W tt f) : PT X e (tT X.K W f) :=
  ⟨fun pins s σ H Q I ⟨R, H0, Hb0, s', τ, Hb, k, kx, e, hf, hk, hx⟩ => h.run pins s σ H Q I (g R H0 Hb0 s' σ τ Hb H Q k kx e hf hk hx)⟩
theorem dwG {X : Cx} {W : WX} {e : Expr} {tt : TT} {f : ST} (h : PW X e tt) (g : GoodT X.K W tt f) : PW X e (tT X.K W f) :=
  ⟨fun wh pins s σ H Q I ⟨R, H0, Hb0, s', τ, Hb, k, kx, e, hf, hk, hx⟩ => h.run wh pins s σ H Q I (g R H0 Hb0 s' σ τ Hb H Q k kx e hf hk hx)⟩
/-! ### names and constants -/
def dVar (i : Nat) : SE := fun s k _ => match s.Γ[i]? with
  | some (.im d) => k s (.im d)
  | some (.own d) => k s (.bor d)
  | some .rng => k s .rng
  | _ => False
/-- .. of which no more is written -/
def dFrz (i : Nat) : SE := fun s k _ => match s.Γ[i]? with
  | some (.im d) => k s (.im d)
  | some (.own d) => k { s with Γ := s.Γ.set i (.im d) } (.im d)
  | some .rng => k s .rng
  | _ => False
/-- .. handed on -/
def dMov (i : Nat) : SE := fun s k _ => match s.Γ[i]? with
  | some (.im d) => k s (.im d)
  | some (.own d) => k { s with Γ := s.Γ.set i .no } (.own d)
  | _ => False
def dC (d : D) : SE := fun s k _ => k s (.im d)
section
variable {K : PySem.W.Frag} {W : WX} {R : Option Addr} {H0 Hb0 Hb H Hb' H' : Hp} {s : S} {σ : St} {τ : LE} {r : Sl} {v : V}
theorem zip_get {Γ : List Sl} {σ : St} {τ : LE} {i : Nat} {t : Sl} (hl : Γ.length = σ.length) (h : Γ[i]? = some t) : ∃ o, σ[i]? = some o ∧ (Γ.zip σ ++ τ)[i]? = some (t, o) := by
  have hi := (List.getElem?_eq_some_iff.mp h).1
  have hj : i < σ.length := by omega
  refine ⟨σ[i], List.getElem?_eq_getElem hj, ?_⟩
  rw [List.getElem?_append_left (by rw [List.length_zip]; omega), List.getElem?_zip_eq_some]
  exact ⟨h, List.getElem?_eq_getElem hj⟩
theorem Env.slot {i : Nat} {t : Sl} (e : Env K R H0 Hb0 s σ τ Hb H) (h : s.Γ[i]? = some t) (hn : t ≠ .no) : ∃ v, σ[i]? = some (some v) ∧ SlOk K R H0 Hb H t (some v) ∧ (s.Γ.zip σ ++ τ)[i]? = some (t, some v) := by
  obtain ⟨o, h1, h2⟩ := zip_get (τ := τ) e.len h
  have q := e.e.it i _ h2
  cases o with
  | some v => exact ⟨v, h1, q, h2⟩
  | none =>
    cases t with
    | no => exact absurd rfl hn
    | _ => exact q.elim
theorem zip_set {Γ : List Sl} {σ : St} (r : Sl) (o : Option V) : ∀ (i : Nat), (Γ.set i r).zip (σ.set i o) = (Γ.zip σ).set i (r, o) := by
  intro i
  induction Γ generalizing σ i with
  | nil => simp
  | cons a Γ ih =>
    cases σ with
    | nil => simp
    | cons b σ =>
      cases i with
      | zero => rfl
      | succ i =>
        exact congrArg ((a, b) :: ·) (ih i)
theorem zip_setτ {Γ : List Sl} {σ : St} {τ : LE} {r : Sl} {o : Option V} {i : Nat} (hl : Γ.length = σ.length) (hi : i < Γ.length) : (Γ.set i r).zip (σ.set i o) ++ τ = (Γ.zip σ ++ τ).set i (r, o) := by
  rw [zip_set, List.set_append_left _ _ (by rw [List.length_zip]; omega)]
theorem set_self {σ : St} {i : Nat} {o : Option V} (h : σ[i]? = some o) : σ.set i o = σ := by
  apply List.ext_getElem?
  intro j
  by_cases z : i = j
  · subst z
    rw [List.getElem?_set_self (List.getElem?_eq_some_iff.mp h).1, h]
  · rw [List.getElem?_set_ne z]
theorem mem_set {Γ : List Sl} {i : Nat} {r t : Sl} (h : t ∈ Γ.set i r) : t ∈ Γ ∨ t = r := List.mem_or_eq_of_mem_set h
/-- a slot is known less of -/
theorem Env.less {i : Nat} (e : Env K R H0 Hb0 s σ τ Hb H) : Env K R H0 Hb0 { s with Γ := s.Γ.set i .no } σ τ Hb H := by
  refine ⟨by simpa using e.len, fun t ht d => ?_, e.nbt, e.e.weak fun j t q => ?_⟩
  · rcases mem_set ht with h | h
    · exact e.nb t h d
    · rw [h]; simp
  · by_cases hj : j < (s.Γ.zip σ).length
    · have hj' : j < ((s.Γ.set i .no).zip σ).length := by rw [List.length_zip] at hj ⊢; simpa using hj
      rw [List.getElem?_append_left hj'] at q
      rw [List.getElem?_append_left hj]
      rw [List.getElem?_zip_eq_some] at q
      by_cases z : i = j
      · subst z
        left
        have hl : i < s.Γ.length := by rw [List.length_zip] at hj; omega
        rw [List.getElem?_set_self hl] at q
        exact (Option.some.inj q.1).symm
      · right
        rw [List.getElem?_set_ne z] at q
        rw [List.getElem?_zip_eq_some]
        exact q
    · have hz : ((s.Γ.set i Sl.no).zip σ).length = (s.Γ.zip σ).length := by rw [List.length_zip, List.length_zip, List.length_set]
      right
      have q : ((s.Γ.set i Sl.no).zip σ ++ τ)[j]? = some t := q
      rw [List.getElem?_append_right (by omega)] at q
      rw [List.getElem?_append_right (by omega), ← hz]
      exact q
theorem good_var (i : Nat) : GoodE K W (tVar i) (dVar i) := fun R H0 Hb0 s σ τ Hb H Q k kx e hf hk hx => by
  unfold dVar at hf
  split at hf
  · rename_i d h
    obtain ⟨v, h1, h2, h3⟩ := e.slot h (by simp)
    exact ⟨v, h1, hk _ _ hf v Hb H e rfl (ResOk.im h2)⟩
  · rename_i d h
    obtain ⟨v, h1, h2, h3⟩ := e.slot h (by simp)
    obtain ⟨a, o, rfl, f2, f3, f4, f5, f6⟩ := h2
    refine ⟨_, h1, hk _ _ hf _ Hb H e rfl ⟨⟨a, o, rfl, f3, f5, f6⟩, by simp, fun z => by simp at z, fun ⟨_, z⟩ => by simp at z, fun _ a' ha' j ⟨d', q⟩ => ?_⟩⟩
    cases ha'
    have := e.e.ap i j a ⟨d, .inl h3⟩ ⟨d', .inr q⟩
    subst this
    rw [h3] at q
    cases q
  · rename_i h
    obtain ⟨v, h1, h2, h3⟩ := e.slot h (by simp)
    exact ⟨v, h1, hk _ _ hf v Hb H e rfl (ResOk.rng h2)⟩
  · exact hf.elim
theorem Env.moved {i : Nat} {d : D} (e : Env K R H0 Hb0 s σ τ Hb H) (h : s.Γ[i]? = some (.own d)) : ∃ a, σ[i]? = some (some (.ref a)) ∧ ResOk K R H0 ((s.Γ.set i .no).zip σ ++ τ) Hb H (.own d) (.ref a) := by
  obtain ⟨v, h1, h2, h3⟩ := e.slot h (by simp)
  obtain ⟨a, o, rfl, w⟩ := id h2
  refine ⟨a, h1, h2, by simp, fun _ a' ha' j ho => ?_, fun ⟨_, z⟩ => by simp at z, fun ⟨_, z⟩ => by simp at z⟩
  cases ha'
  have hi := (List.getElem?_eq_some_iff.mp h).1
  have z : (s.Γ.set i .no).zip σ ++ τ = (s.Γ.zip σ ++ τ).set i (.no, some (.ref a)) := by
    rw [← zip_setτ e.len hi, set_self h1]
  rw [z] at ho
  have key : ∀ t : Sl × Option V, ((s.Γ.zip σ ++ τ).set i (Sl.no, some (V.ref a)))[j]? = some t → t.1 ≠ .no → i ≠ j ∧ (s.Γ.zip σ ++ τ)[j]? = some t := fun t q n => by
    rcases set_get q with ⟨y, q'⟩ | ⟨_, rfl, _⟩
    · exact ⟨fun x => y x.symm, q'⟩
    · exact absurd rfl n
  obtain ⟨d', q | q⟩ := ho
  · obtain ⟨n, q'⟩ := key _ q (by simp)
    exact n (e.e.ap i j a ⟨d, .inl h3⟩ ⟨d', .inl q'⟩)
  · obtain ⟨n, q'⟩ := key _ q (by simp)
    exact n (e.e.ap i j a ⟨d, .inl h3⟩ ⟨d', .inr q'⟩)
theorem good_mov (i : Nat) : GoodE K W (tVar i) (dMov i) := fun R H0 Hb0 s σ τ Hb H Q k kx e hf hk hx => by
  unfold dMov at hf
  split at hf
  · rename_i d h
    obtain ⟨v, h1, h2, h3⟩ := e.slot h (by simp)
    exact ⟨v, h1, hk _ _ hf v Hb H e rfl (ResOk.im h2)⟩
  · rename_i d h
    obtain ⟨a, h1, h2⟩ := e.moved h
    exact ⟨_, h1, hk _ _ hf _ Hb H e.less rfl h2⟩
  · exact hf.elim
theorem Env.put {i : Nat} (e : Env K R H0 Hb0 s σ τ Hb H) (h : ResOk K R H0 (s.Γ.zip σ ++ τ) Hb H r v) (hb : ∀ d, r ≠ .bor d) (ht : ∀ d, r ≠ .tmp d) (hi : i < s.Γ.length) : Env K R H0 Hb0 { s with Γ := s.Γ.set i r } (σ.set i (some v)) τ Hb H := by
  refine ⟨by simpa using e.len, fun t ht d => ?_, e.nbt, ?_⟩
  · rcases mem_set ht with h | h
    · exact e.nb t h d
    · rw [h]; exact hb d
  · show EnvL K R H0 Hb0 s.c ((s.Γ.set i r).zip (σ.set i (some v)) ++ τ) Hb H
    rw [zip_setτ e.len hi]
    exact e.e.set h hb ht i
theorem good_frz (i : Nat) : GoodE K W (tVar i) (dFrz i) := fun R H0 Hb0 s σ τ Hb H Q k kx e hf hk hx => by
  unfold dFrz at hf
  split at hf
  · rename_i d h
    obtain ⟨v, h1, h2, h3⟩ := e.slot h (by simp)
    exact ⟨v, h1, hk _ _ hf v Hb H e rfl (by first | exact ResOk.im h2 | exact ResOk.rng h2)⟩
  · rename_i d h
    obtain ⟨a, h1, h2⟩ := e.moved h
    have e1 : Env K R H0 Hb0 { s with Γ := s.Γ.set i .no } σ τ Hb H := e.less
    obtain ⟨Hb', e2, q⟩ := e1.imm (r := .own d) h2
    have hi := (List.getElem?_eq_some_iff.mp h).1
    have e3 := e2.put (i := i) (r := .im d) q (fun d' => by simp) (fun d' => by simp) (by simpa using hi)
    rw [set_self h1] at e3
    have z : (s.Γ.set i Sl.no).set i (.im d) = s.Γ.set i (.im d) := by rw [List.set_set]
    have e3' : Env K R H0 Hb0 { s with Γ := s.Γ.set i (.im d) } σ τ Hb' H := by
      have e4 : Env K R H0 Hb0 { s with Γ := (s.Γ.set i Sl.no).set i (.im d) } σ τ Hb' H := e3
      rw [z] at e4
      exact e4
    exact ⟨_, h1, hk _ _ hf _ Hb' H e3' rfl (ResOk.im q.1)⟩
  · rename_i h
    obtain ⟨v, h1, h2, h3⟩ := e.slot h (by simp)
    exact ⟨v, h1, hk _ _ hf v Hb H e rfl (by first | exact ResOk.im h2 | exact ResOk.rng h2)⟩
  · exact hf.elim
theorem good_c {v : V} {d : D} (h : ∀ Hb : Hp, Dn K Hb v d) : GoodE K W (tC v) (dC d) := fun R H0 Hb0 s σ τ Hb H Q k kx e hf hk hx =>
  hk _ _ hf v Hb H e rfl (ResOk.im (h Hb))
end
/-! ### operators, by values -/
def OpOk (K : PySem.W.Frag) (r : R2) (op : Sl → Sl → (Sl → Prop) → Prop) : Prop :=
  ∀ R H0 Hb0 c L Hb H x y v w (Q : VK) (k : Sl → Prop), EnvL K R H0 Hb0 c L Hb H → SlOk K R H0 Hb H x (some v) → SlOk K R H0 Hb H y (some w) → op x y k →
    (∀ r, k r → ∀ u Hb' H', Grow K R c Hb H Hb' H' → ResOk K R H0 L Hb' H' r u → Q u H') → r v w H Q
def UnOk (K : PySem.W.Frag) (r : V → Hp → VK → Prop) (op : Sl → (Sl → Prop) → Prop) : Prop :=
  ∀ R H0 Hb0 c L Hb H x v (Q : VK) (k : Sl → Prop), EnvL K R H0 Hb0 c L Hb H → SlOk K R H0 Hb H x (some v) → op x k →
    (∀ r, k r → ∀ u Hb' H', Grow K R c Hb H Hb' H' → ResOk K R H0 L Hb' H' r u → Q u H') → r v H Q
def CbOk (K : PySem.W.Frag) (r : List V → Hp → VK → Prop) (op : List Sl → (Sl → Prop) → Prop) : Prop :=
  ∀ R H0 Hb0 c L Hb H as vs (Q : VK) (k : Sl → Prop), EnvL K R H0 Hb0 c L Hb H → ArgsOk K R H0 Hb H as vs → op as k →
    (∀ r, k r → ∀ u Hb' H', Grow K R c Hb H Hb' H' → ResOk K R H0 L Hb' H' r u → Q u H') → r vs H Q
def dBin (op : Sl → Sl → (Sl → Prop) → Prop) (f g : SE) : SE := fun s k kx => f s (fun s1 a => g (pend (imm a) s1) (fun s2 b => op (imm a) (imm b) (k { s2 with b := s1.b })) kx) kx
def dUn (op : Sl → (Sl → Prop) → Prop) (f : SE) : SE := fun s k kx => f s (fun s1 a => op (imm a) (k s1)) kx
def dNil : SA := fun s k _ => k s []
def dCons (f : SE) (g : SA) : SA := fun s k kx => f s (fun s1 a => g (pend (imm a) s1) (fun s2 as => k { s2 with b := s1.b } (imm a :: as)) kx) kx
def dCB (op : List Sl → (Sl → Prop) → Prop) (f : SA) : SE := fun s k kx => f s (fun s1 as => op as (k s1)) kx
section
variable {K : PySem.W.Frag} {W : WX} {ta tb : TE} {f g : SE} {tas : TA} {fs : SA}
theorem good_bin {r : R2} {op : Sl → Sl → (Sl → Prop) → Prop} (ho : OpOk K r op) (ha : GoodE K W ta f) (hb : GoodE K W tb g) : GoodE K W (tOp r ta tb) (dBin op f g) := fun R H0 Hb0 s σ τ Hb H Q k kx e hf hk hx => by
  refine ha R H0 Hb0 s σ τ Hb H _ _ _ e hf (fun s1 a hg v Hb1 H1 e1 b1 q1 => ?_) hx
  obtain ⟨Hb1', e1', q1'⟩ := e1.imm q1
  refine hb R H0 Hb0 _ σ _ Hb1' H1 _ _ _ (e1'.push q1') hg (fun s2 b hop w Hb2 H2 e2 b2 q2 => ?_) hx.pop
  obtain ⟨Hb2', e2', q2'⟩ := e2.imm q2
  have e3 : Env K R H0 Hb0 { s2 with b := s1.b } σ τ Hb2' H2 := e2'.pop.unb fun z => e1.nbt z
  refine ho R H0 Hb0 s2.c _ Hb2' H2 _ _ v w Q _ e3.e e2'.top q2'.1 hop fun r hr u Hb3 H3 g q3 => ?_
  exact hk _ _ hr u Hb3 H3 (e3.grow g) b1 q3
theorem good_un {r : V → Hp → VK → Prop} {op : Sl → (Sl → Prop) → Prop} (ho : UnOk K r op) (ha : GoodE K W ta f) : GoodE K W (fun σ H Q => ta σ H fun x H1 => r x H1 Q) (dUn op f) := fun R H0 Hb0 s σ τ Hb H Q k kx e hf hk hx => by
  refine ha R H0 Hb0 s σ τ Hb H _ _ _ e hf (fun s1 a hop v Hb1 H1 e1 b1 q1 => ?_) hx
  obtain ⟨Hb1', e1', q1'⟩ := e1.imm q1
  exact ho R H0 Hb0 s1.c _ Hb1' H1 _ v Q _ e1'.e q1'.1 hop fun r hr u Hb3 H3 g q3 => hk _ _ hr u Hb3 H3 (e1'.grow g) b1 q3
theorem good_nil : GoodA K W tNil dNil := fun R H0 Hb0 s σ τ Hb H Q k kx e hf hk hx => hk s [] hf [] Hb H e rfl rfl
theorem good_cons (ha : GoodE K W ta f) (hb : GoodA K W tas fs) : GoodA K W (tCons ta tas) (dCons f fs) := fun R H0 Hb0 s σ τ Hb H Q k kx e hf hk hx => by
  refine ha R H0 Hb0 s σ τ Hb H _ _ _ e hf (fun s1 a hg v Hb1 H1 e1 b1 q1 => ?_) hx
  obtain ⟨Hb1', e1', q1'⟩ := e1.imm q1
  refine hb R H0 Hb0 _ σ _ Hb1' H1 _ _ _ (e1'.push q1') hg (fun s2 as hop vs Hb2 H2 e2 b2 q2 => ?_) hx.pop
  exact hk _ _ hop (v :: vs) Hb2 H2 (e2.pop.unb fun z => e1.nbt z) b1 ⟨v, vs, rfl, e2.top, imm_ne q1.2.1, fun d => imm_own, q2⟩
theorem good_cb {r : List V → Hp → VK → Prop} {op : List Sl → (Sl → Prop) → Prop} (ho : CbOk K r op) (ha : GoodA K W tas fs) : GoodE K W (tCB r tas) (dCB op fs) := fun R H0 Hb0 s σ τ Hb H Q k kx e hf hk hx => by
  refine ha R H0 Hb0 s σ τ Hb H _ _ _ e hf (fun s1 as hop vs Hb1 H1 e1 b1 q1 => ?_) hx
  exact ho R H0 Hb0 s1.c _ Hb1 H1 _ vs Q _ e1.e q1 hop fun r hr u Hb3 H3 g q3 => hk _ _ hr u Hb3 H3 (e1.grow g) b1 q3
end
end DL

/-! ## DL3 -/
set_option Elab.async false
set_option linter.all false
set_option autoImplicit false
set_option maxRecDepth 100000
set_option maxHeartbeats 400000
namespace DL
open PySem L2
/-! ### what is read -/
def rdD : Sl → Option D
  | .im d => some d
  | .bor d => some d
  | _ => none
section
variable {K : PySem.W.Frag} {R : Option Addr} {H0 Hb0 Hb H : Hp} {c : Nat} {L : LE} {x : Sl} {v : V} {d : D}
theorem Hm.sub : Sub (Hm R H) H := fun a o h => (Hm.inv h).1
theorem SlOk.rd (e : EnvL K R H0 Hb0 c L Hb H) (h : SlOk K R H0 Hb H x (some v)) (q : rdD x = some d) : Dn K H v d := by
  cases x with
  | im d' => cases q; exact Dn.mono e.subH d h
  | bor d' =>
    cases q
    obtain ⟨a, o, rfl, _, h5, h6⟩ := h
    exact DnO.dn h5 (h6.mono e.subH)
  | _ => cases q
theorem SlOk.int {i : Int} (h : SlOk K R H0 Hb H (.im (.int i)) (some v)) : v = .int i := Dn.int' (K := K) (H := Hb) h
theorem SlOk.str {i : Str} (h : SlOk K R H0 Hb H (.im (.str i)) (some v)) : v = .str i := Dn.str' (K := K) (H := Hb) h
theorem SlOk.ty {i : String} (h : SlOk K R H0 Hb H (.im (.ty i)) (some v)) : v = .ty i := Dn.ty' (K := K) (H := Hb) h
theorem SlOk.bl {i : Bool} (h : SlOk K R H0 Hb H (.im (.bl i)) (some v)) : v = .bl i := Dn.bl' (K := K) (H := Hb) h
theorem SlOk.lst {ds : List D} (e : EnvL K R H0 Hb0 c L Hb H) (h : SlOk K R H0 Hb H x (some v)) (q : rdD x = some (.lst ds)) : ∃ a xs, v = .ref a ∧ SqL K H a xs ∧ DnL K Hb xs ds := by
  cases x with
  | im d' =>
    cases q
    obtain ⟨a, xs, rfl, h1, h2⟩ := Dn.lst' h
    exact ⟨a, xs, rfl, e.subH.sqL h1, h2⟩
  | bor d' =>
    cases q
    obtain ⟨a, o, rfl, _, h5, h6⟩ := h
    cases h6 with
    | lst l => exact ⟨a, _, rfl, SqL.of h5, l⟩
  | _ => cases q
theorem SlOk.tup {ds : List D} (e : EnvL K R H0 Hb0 c L Hb H) (h : SlOk K R H0 Hb H x (some v)) (q : x = .im (.tup ds)) : ∃ a xs, v = .ref a ∧ SqT K H a xs ∧ SqT K Hb a xs ∧ DnL K Hb xs ds := by
  subst q
  obtain ⟨a, xs, rfl, h1, h2⟩ := Dn.tup' h
  exact ⟨a, xs, rfl, e.subH.sqT h1, h1, h2⟩
theorem EnvL.noown {p : Addr} (e : EnvL K R H0 Hb0 c L Hb H) (hp : H p = none) (i : Nat) : ¬ OwnAt L i p := fun ⟨d, q⟩ => by
  rcases q with q | q
  · obtain ⟨a, o, f1, _, _, _, f5, _⟩ := e.it i _ q
    cases f1
    rw [hp] at f5; cases f5
  · obtain ⟨a, o, f1, _, _, _, f5, _⟩ := e.it i _ q
    cases f1
    rw [hp] at f5; cases f5
theorem EnvL.nobor {p : Addr} (e : EnvL K R H0 Hb0 c L Hb H) (hp : H p = none) (i : Nat) : ¬ BorAt L i p := fun ⟨d, q⟩ => by
  obtain ⟨a, o, f1, _, f5, _⟩ := e.it i _ q
  cases f1
  rw [hp] at f5; cases f5
/-- a new tuple, a new list -/
theorem ResOk.tup {p : Addr} {vs : List V} {ds : List D} (e : EnvL K R H0 Hb0 c L Hb H) (hp : H p = none) (l : DnL K Hb vs ds) : ResOk K R H0 L (upd Hb p (.tup vs)) (upd H p (.tup vs)) (.im (.tup ds)) (.ref p) :=
  ResOk.im (Dn.tup (SqT.of upd_same) (DnL.mono (Sub.new (e.bfresh hp)) ds l))
theorem ResOk.lst {p : Addr} {vs : List V} {ds : List D} (e : EnvL K R H0 Hb0 c L Hb H) (hp : H p = none) (l : DnL K Hb vs ds) : ResOk K R H0 L Hb (upd H p (.lst vs)) (.own (.lst ds)) (.ref p) :=
  ⟨⟨p, _, rfl, e.bfresh hp, e.rfresh hp, e.h0fresh hp, upd_same, .lst l⟩, by simp, fun _ a ha i => by cases ha; exact e.noown hp i, fun ⟨_, z⟩ => by simp at z, fun ⟨_, z⟩ => by simp at z⟩
end
/-! ### data as the equality takes it -/
mutual
def D.py : D → PyData
  | .non => .none
  | .bl b => .bool b
  | .int i => .int i
  | .str x => .str x
  | .ty _ => .dict []
  | .ptr _ => .dict []
  | .tup ds => .tuple (D.pyL ds)
  | .lst ds => .list (D.pyL ds)
  | .dic _ _ => .dict []
  | .obj _ _ _ => .dict []
def D.pyL : List D → List PyData
  | [] => []
  | d :: ds => D.py d :: D.pyL ds
end
section
variable {K : PySem.W.Frag} {H : Hp}
mutual
theorem Dn.dp : ∀ (d : D) {v : V}, Dn K H v d → (D.py d).canLay0 = true → Dp K H v (D.py d)
  | .non, _, h, _ => by rw [h.non']; exact .non
  | .bl b, _, h, _ => by rw [h.bl']; exact .bl b
  | .int i, _, h, _ => by rw [h.int']; exact .int i
  | .str x, _, h, _ => by rw [h.str']; exact .str x
  | .ty _, _, _, q => by simp [D.py, PyData.canLay0] at q
  | .ptr _, _, _, q => by simp [D.py, PyData.canLay0] at q
  | .tup ds, _, h, q => by
    obtain ⟨a, xs, rfl, s, l⟩ := h.tup'
    exact .tup s (DnL.dp ds l (by simpa [D.py, PyData.canLay0] using q))
  | .lst ds, _, h, q => by
    obtain ⟨a, xs, rfl, s, l⟩ := h.lst'
    exact .lst s (DnL.dp ds l (by simpa [D.py, PyData.canLay0] using q))
  | .dic _ _, _, _, q => by simp [D.py, PyData.canLay0] at q
  | .obj _ _ _, _, _, q => by simp [D.py, PyData.canLay0] at q
theorem DnL.dp : ∀ (ds : List D) {vs : List V}, DnL K H vs ds → PyData.canLayAll0 (D.pyL ds) = true → DpAll K H vs (D.pyL ds)
  | [], _, h, _ => by rw [h.inv0]; exact .nil
  | d :: ds, _, h, q => by
    obtain ⟨v, r, rfl, x, l⟩ := h.inv
    have q' : (D.py d).canLay0 = true ∧ PyData.canLayAll0 (D.pyL ds) = true := by simpa [D.pyL, PyData.canLayAll0] using q
    exact .cons (Dn.dp d x q'.1) (DnL.dp ds l q'.2)
end
end
def okD (d : D) : Prop := SeqAt.shaped (D.py d) = true
def eqD (d e : D) : Bool := PyData.eqv (D.py d) (D.py e)
def oEq : Sl → Sl → (Sl → Prop) → Prop := fun x y k => ∃ d e, rdD x = some d ∧ rdD y = some e ∧ okD d ∧ okD e ∧ k (.im (.bl (eqD d e)))
def oNe : Sl → Sl → (Sl → Prop) → Prop := fun x y k => ∃ d e, rdD x = some d ∧ rdD y = some e ∧ okD d ∧ okD e ∧ k (.im (.bl (!eqD d e)))
def oIn : Sl → Sl → (Sl → Prop) → Prop := fun x y k => ∃ d ds, rdD x = some d ∧ rdD y = some (.lst ds) ∧ okD d ∧ okD (.lst ds) ∧ k (.im (.bl (ds.any fun z => eqD z d)))
def oNotIn : Sl → Sl → (Sl → Prop) → Prop := fun x y k => ∃ d ds, rdD x = some d ∧ rdD y = some (.lst ds) ∧ okD d ∧ okD (.lst ds) ∧ k (.im (.bl (!ds.any fun z => eqD z d)))
/-- ints -/
def oI (g : Int → Int → D) : Sl → Sl → (Sl → Prop) → Prop := fun x y k => ∃ i j, x = .im (.int i) ∧ y = .im (.int j) ∧ k (.im (g i j))
def oIC (C : Int → Int → Prop) (g : Int → Int → D) : Sl → Sl → (Sl → Prop) → Prop := fun x y k => ∃ i j, x = .im (.int i) ∧ y = .im (.int j) ∧ C i j ∧ k (.im (g i j))
/-- scalars -/
def scD : D → Option V
  | .non => some .non
  | .bl b => some (.bl b)
  | .int i => some (.int i)
  | .str x => some (.str x)
  | _ => none
def oEqS : Sl → Sl → (Sl → Prop) → Prop := fun x y k => ∃ d e u w, x = .im d ∧ y = .im e ∧ scD d = some u ∧ scD e = some w ∧ scal u w = true ∧ k (.im (.bl (decide (u = w))))
def oNeS : Sl → Sl → (Sl → Prop) → Prop := fun x y k => ∃ d e u w, x = .im d ∧ y = .im e ∧ scD d = some u ∧ scD e = some w ∧ scal u w = true ∧ k (.im (.bl (!decide (u = w))))
/-- tuples, lists, texts joined -/
def oCatT : Sl → Sl → (Sl → Prop) → Prop := fun x y k => ∃ ds es, x = .im (.tup ds) ∧ y = .im (.tup es) ∧ ds.length + es.length ≤ 1000000 ∧ k (.im (.tup (ds ++ es)))
def oCatS : Sl → Sl → (Sl → Prop) → Prop := fun x y k => ∃ a b, x = .im (.str a) ∧ y = .im (.str b) ∧ a.length + b.length ≤ 1000000 ∧ k (.im (.str (a ++ b)))
def oIxT : Sl → Sl → (Sl → Prop) → Prop := fun x y k => ∃ ds i d, x = .im (.tup ds) ∧ y = .im (.int i) ∧ atI ds i = some d ∧ k (.im d)
def oIxL : Sl → Sl → (Sl → Prop) → Prop := fun x y k => ∃ ds i d, rdD x = some (.lst ds) ∧ y = .im (.int i) ∧ atI ds i = some d ∧ k (.im d)
def oIxS : Sl → Sl → (Sl → Prop) → Prop := fun x y k => ∃ (z : Str) (i : Int) (c : Nat), x = .im (.str z) ∧ y = .im (.int i) ∧ z.length ≤ 1000000 ∧ atI z.cps.toList i = some c ∧ k (.im (.str ⟨#[c]⟩))
theorem line_of {n : Nat} (h : n ≤ 1000000) : n ≤ sizeLine := Nat.le_trans h (by decide)
theorem lt_line_of {n : Nat} (h : n ≤ 1000000) : n < sizeLine := Nat.lt_of_le_of_lt h (by decide)
theorem scD_dn {K : PySem.W.Frag} {H : Hp} {d : D} {u v : V} (h : scD d = some u) (q : Dn K H v d) : v = u := by
  cases d <;> simp only [scD, Option.some.injEq, reduceCtorEq] at h
  · rw [← h]; exact q.non'
  · rw [← h]; exact q.bl'
  · rw [← h]; exact q.int'
  · rw [← h]; exact q.str'
theorem atI_map {α β : Type} {R : α → β → Prop} {xs : List α} {ys : List β} (hl : xs.length = ys.length) (hg : ∀ (i : Nat) (y : β), ys[i]? = some y → ∃ x, xs[i]? = some x ∧ R x y) {i : Int} {y : β} (h : atI ys i = some y) : ∃ x, atI xs i = some x ∧ R x y := by
  unfold atI at h ⊢
  rw [hl]
  cases q : ixN ys.length i with
  | none => rw [q] at h; cases h
  | some j =>
    rw [q] at h
    exact hg j y h
section
variable {K : PySem.W.Frag} {X : Cx}
theorem ok_eq : OpOk K (rEqD K) oEq := fun R H0 Hb0 c L Hb H x y v w Q k e hx hy ⟨d, e', h1, h2, h3, h4, hk⟩ q =>
  ⟨_, _, Dn.dp d (hx.rd e h1) (SeqAt.canLay_of_shaped h3), Dn.dp e' (hy.rd e h2) (SeqAt.canLay_of_shaped h4), h3, h4, q _ hk _ Hb H (Grow.refl e) (ResOk.im (Dn.bl _))⟩
theorem ok_ne : OpOk K (rNeD K) oNe := fun R H0 Hb0 c L Hb H x y v w Q k e hx hy ⟨d, e', h1, h2, h3, h4, hk⟩ q =>
  ⟨_, _, Dn.dp d (hx.rd e h1) (SeqAt.canLay_of_shaped h3), Dn.dp e' (hy.rd e h2) (SeqAt.canLay_of_shaped h4), h3, h4, q _ hk _ Hb H (Grow.refl e) (ResOk.im (Dn.bl _))⟩
theorem any_pyL (f : PyData → Bool) : ∀ ds : List D, (D.pyL ds).any f = ds.any fun z => f (D.py z)
  | [] => rfl
  | d :: ds => by
    show (f (D.py d) || (D.pyL ds).any f) = (f (D.py d) || ds.any fun z => f (D.py z))
    rw [any_pyL f ds]
theorem ok_in : OpOk K (rInD K) oIn := fun R H0 Hb0 c L Hb H x y v w Q k e hx hy ⟨d, ds, h1, h2, h3, h4, hk⟩ q =>
  ⟨_, D.pyL ds, Dn.dp d (hx.rd e h1) (SeqAt.canLay_of_shaped h3), Dn.dp _ (hy.rd e h2) (SeqAt.canLay_of_shaped h4), h3, h4, by
    rw [any_pyL]
    exact q _ hk _ Hb H (Grow.refl e) (ResOk.im (Dn.bl _))⟩
theorem ok_notIn : OpOk K (rNotInD K) oNotIn := fun R H0 Hb0 c L Hb H x y v w Q k e hx hy ⟨d, ds, h1, h2, h3, h4, hk⟩ q =>
  ⟨_, D.pyL ds, Dn.dp d (hx.rd e h1) (SeqAt.canLay_of_shaped h3), Dn.dp _ (hy.rd e h2) (SeqAt.canLay_of_shaped h4), h3, h4, by
    rw [any_pyL]
    exact q _ hk _ Hb H (Grow.refl e) (ResOk.im (Dn.bl _))⟩
theorem ok_I {g : Int → Int → V} {g' : Int → Int → D} (hg : ∀ i j (Hb : Hp), Dn K Hb (g i j) (g' i j)) : OpOk K (rI0 g) (oI g') := fun R H0 Hb0 c L Hb H x y v w Q k e hx hy ⟨i, j, h1, h2, hk⟩ q => by
  subst h1 h2
  exact ⟨i, j, SlOk.int hx, SlOk.int hy, q _ hk _ Hb H (Grow.refl e) (ResOk.im (hg i j Hb))⟩
theorem ok_IC {C : Int → Int → Prop} {g : Int → Int → V} {g' : Int → Int → D} (hg : ∀ i j (Hb : Hp), Dn K Hb (g i j) (g' i j)) : OpOk K (rI C g) (oIC C g') := fun R H0 Hb0 c L Hb H x y v w Q k e hx hy ⟨i, j, h1, h2, hc, hk⟩ q => by
  subst h1 h2
  exact ⟨i, j, SlOk.int hx, SlOk.int hy, hc, q _ hk _ Hb H (Grow.refl e) (ResOk.im (hg i j Hb))⟩
theorem ok_eqS : OpOk K rEq oEqS := fun R H0 Hb0 c L Hb H x y v w Q k e hx hy ⟨d, e', u, w', h1, h2, h3, h4, h5, hk⟩ q => by
  subst h1 h2
  have e1 := scD_dn h3 hx
  have e2 := scD_dn h4 hy
  subst e1 e2
  exact ⟨h5, q _ hk _ Hb H (Grow.refl e) (ResOk.im (Dn.bl _))⟩
theorem ok_neS : OpOk K rNe oNeS := fun R H0 Hb0 c L Hb H x y v w Q k e hx hy ⟨d, e', u, w', h1, h2, h3, h4, h5, hk⟩ q => by
  subst h1 h2
  have e1 := scD_dn h3 hx
  have e2 := scD_dn h4 hy
  subst e1 e2
  exact ⟨h5, q _ hk _ Hb H (Grow.refl e) (ResOk.im (Dn.bl _))⟩
theorem ok_catS : OpOk K (fun x y H Q => ∃ i j, x = .str i ∧ y = .str j ∧ i.length + j.length ≤ sizeLine ∧ Q (.str (i ++ j)) H) oCatS := fun R H0 Hb0 c L Hb H x y v w Q k e hx hy ⟨a, b, h1, h2, hl, hk⟩ q => by
  subst h1 h2
  exact ⟨a, b, SlOk.str hx, SlOk.str hy, line_of hl, q _ hk _ Hb H (Grow.refl e) (ResOk.im (Dn.str _))⟩
theorem ok_ixT : OpOk K (rIxT K) oIxT := fun R H0 Hb0 c L Hb H x y v w Q k e hx hy ⟨ds, i, d, h1, h2, hl, hk⟩ q => by
  subst h1 h2
  obtain ⟨a, xs, rfl, s, l⟩ := Dn.tup' hx
  obtain ⟨u, hu, hd⟩ := atI_map (R := Dn K Hb) l.length (fun i y h => l.getD h) hl
  exact ⟨a, xs, i, u, rfl, SlOk.int hy, e.subH.sqT s, hu, q _ hk _ Hb H (Grow.refl e) (ResOk.im hd)⟩
theorem ok_ixL : OpOk K (rIxL K) oIxL := fun R H0 Hb0 c L Hb H x y v w Q k e hx hy ⟨ds, i, d, h1, h2, hl, hk⟩ q => by
  subst h2
  obtain ⟨a, xs, rfl, s, l⟩ := hx.lst e h1
  obtain ⟨u, hu, hd⟩ := atI_map (R := Dn K Hb) l.length (fun i y h => l.getD h) hl
  exact ⟨a, xs, i, u, rfl, SlOk.int hy, s, hu, q _ hk _ Hb H (Grow.refl e) (ResOk.im hd)⟩
theorem ok_ixS : OpOk K rIxS oIxS := fun R H0 Hb0 c L Hb H x y v w Q k e hx hy ⟨z, i, c', h1, h2, hl, ha, hk⟩ q => by
  subst h1 h2
  exact ⟨z, i, c', SlOk.str hx, SlOk.int hy, line_of hl, ha, q _ hk _ Hb H (Grow.refl e) (ResOk.im (Dn.str _))⟩
theorem ok_catT : OpOk K (rCatA K) oCatT := fun R H0 Hb0 c L Hb H x y v w Q k e hx hy ⟨ds, es, h1, h2, hl, hk⟩ q => by
  obtain ⟨a, xs, rfl, s, sb, l⟩ := hx.tup e h1
  obtain ⟨b, ys, rfl, s2, sb2, l2⟩ := hy.tup e h2
  have e1 := l.length
  have e2 := l2.length
  refine ⟨a, b, xs, ys, rfl, rfl, s, s2, line_of (by omega), fun z => ?_, fun _ z => ?_, fun _ _ p hp => ?_⟩
  · subst z
    have : ds = [] := by cases ds with | nil => rfl | cons _ _ => simp at e1
    subst this
    exact q _ hk _ Hb H (Grow.refl e) (ResOk.im (Dn.tup sb2 l2))
  · subst z
    have : es = [] := by cases es with | nil => rfl | cons _ _ => simp at e2
    subst this
    rw [List.append_nil] at hk
    exact q _ hk _ Hb H (Grow.refl e) (ResOk.im (Dn.tup sb l))
  · exact q _ hk _ _ _ (Grow.newB e hp) (ResOk.tup e hp (l.append l2))
/-- list + list -/
def oCatL : Sl → Sl → (Sl → Prop) → Prop := fun x y k => ∃ ds es, rdD x = some (.lst ds) ∧ rdD y = some (.lst es) ∧ ds.length + es.length ≤ 1000000 ∧ k (.own (.lst (ds ++ es)))
end
/-! ### displays -/
def ims : List Sl → Option (List D)
  | [] => some []
  | .im d :: as => (ims as).map (d :: ·)
  | _ :: _ => none
theorem ims_dn {K : PySem.W.Frag} {R : Option Addr} {H0 Hb H : Hp} : ∀ {as : List Sl} {vs : List V} {ds : List D}, ArgsOk K R H0 Hb H as vs → ims as = some ds → DnL K Hb vs ds
  | [], vs, ds, h, q => by
    cases q
    have h : vs = [] := h
    subst h
    exact .nil
  | a :: as, vs, ds, h, q => by
    obtain ⟨v, r, rfl, h1, h2, h3, h4⟩ := h
    cases a with
    | im d =>
      simp only [ims, Option.map_eq_some_iff] at q
      obtain ⟨es, q1, rfl⟩ := q
      exact .cons h1 (ims_dn h4 q1)
    | _ => simp [ims] at q
theorem args_len {K : PySem.W.Frag} {R : Option Addr} {H0 Hb H : Hp} : ∀ {as : List Sl} {vs : List V}, ArgsOk K R H0 Hb H as vs → vs.length = as.length
  | [], vs, h => by
    have h : vs = [] := h
    subst h
    rfl
  | a :: as, vs, h => by
    obtain ⟨v, r, rfl, h1, h2, h3, h4⟩ := h
    exact congrArg (· + 1) (args_len h4)
def dTup (f : SA) : SE := fun s k kx => f s (fun s1 as => ∃ ds, ims as = some ds ∧ ds.length ≤ 1000000 ∧ k s1 (.im (.tup ds))) kx
def dLst (f : SA) : SE := fun s k kx => f s (fun s1 as => ∃ ds, ims as = some ds ∧ ds.length ≤ 1000000 ∧ k s1 (.own (.lst ds))) kx
section
variable {K : PySem.W.Frag} {W : WX} {tas : TA} {fs : SA}
theorem good_tup (ha : GoodA K W tas fs) : GoodE K W (tTup tas) (dTup fs) := fun R H0 Hb0 s σ τ Hb H Q k kx e hf hk hx => by
  refine ha R H0 Hb0 s σ τ Hb H _ _ _ e hf (fun s1 as hop vs Hb1 H1 e1 b1 q1 => ?_) hx
  obtain ⟨ds, h1, h2, h3⟩ := hop
  have l := ims_dn q1 h1
  have hl := l.length
  refine ⟨line_of (by omega), fun p hp => ?_⟩
  exact hk _ _ h3 _ _ _ (e1.grow (Grow.newB e1.e hp)) b1 (ResOk.tup e1.e hp l)
theorem good_lst (ha : GoodA K W tas fs) : GoodE K W (tLst tas) (dLst fs) := fun R H0 Hb0 s σ τ Hb H Q k kx e hf hk hx => by
  refine ha R H0 Hb0 s σ τ Hb H _ _ _ e hf (fun s1 as hop vs Hb1 H1 e1 b1 q1 => ?_) hx
  obtain ⟨ds, h1, h2, h3⟩ := hop
  have l := ims_dn q1 h1
  have hl := l.length
  refine ⟨line_of (by omega), fun p hp => ?_⟩
  exact hk _ _ h3 _ _ _ (e1.grow (Grow.new e1.e hp)) b1 (ResOk.lst e1.e hp l)
end
/-! ### calls of what is built in, by values -/
def lenD : D → Option Nat
  | .tup ds => some ds.length
  | .lst ds => some ds.length
  | _ => none
def oLen : List Sl → (Sl → Prop) → Prop := fun as k => ∃ x d n, as = [x] ∧ rdD x = some d ∧ lenD d = some n ∧ k (.im (.int n))
def oLenS : List Sl → (Sl → Prop) → Prop := fun as k => ∃ z : Str, as = [.im (.str z)] ∧ z.length ≤ 1000000 ∧ k (.im (.int z.length))
def intsD : List D → Option (List Int)
  | [] => some []
  | .int i :: ds => (intsD ds).map (i :: ·)
  | _ :: _ => none
def boolsD : List D → Option (List Bool)
  | [] => some []
  | .bl i :: ds => (boolsD ds).map (i :: ·)
  | _ :: _ => none
def strsD : List D → Option (List Str)
  | [] => some []
  | .str i :: ds => (strsD ds).map (i :: ·)
  | _ :: _ => none
def oSum : List Sl → (Sl → Prop) → Prop := fun as k => ∃ x ds ns, as = [x] ∧ rdD x = some (.lst ds) ∧ intsD ds = some ns ∧ k (.im (.int ns.sum))
def oAny : List Sl → (Sl → Prop) → Prop := fun as k => ∃ x ds bs, as = [x] ∧ rdD x = some (.lst ds) ∧ boolsD ds = some bs ∧ k (.im (.bl (bs.any id)))
def oAll : List Sl → (Sl → Prop) → Prop := fun as k => ∃ x ds bs, as = [x] ∧ rdD x = some (.lst ds) ∧ boolsD ds = some bs ∧ k (.im (.bl (bs.all id)))
def oTuple : List Sl → (Sl → Prop) → Prop := fun as k => ∃ x ds, as = [x] ∧ (rdD x = some (.lst ds) ∨ x = .im (.tup ds)) ∧ k (.im (.tup ds))
def oList : List Sl → (Sl → Prop) → Prop := fun as k => ∃ x ds, as = [x] ∧ (rdD x = some (.lst ds) ∨ x = .im (.tup ds)) ∧ k (.own (.lst ds))
def oInt1 : List Sl → (Sl → Prop) → Prop := fun as k => ∃ i, as = [.im (.int i)] ∧ k (.im (.int i))
def tyD : D → Option String
  | .non => some "NoneType"
  | .bl _ => some "bool"
  | .int _ => some "int"
  | .str _ => some "str"
  | .tup _ => some "tuple"
  | .lst _ => some "list"
  | .dic _ _ => some "dict"
  | _ => none
def oIsi : List Sl → (Sl → Prop) → Prop := fun as k => ∃ x n d m b, as = [x, .im (.ty n)] ∧ rdD x = some d ∧ tyD d = some m ∧ kitB m n = some b ∧ k (.im (.bl b))
section
variable {K : PySem.W.Frag} {R : Option Addr} {H0 Hb0 Hb H : Hp} {c : Nat} {L : LE}
theorem args1 {a : Sl} {vs : List V} (h : ArgsOk K R H0 Hb H [a] vs) : ∃ v, vs = [v] ∧ SlOk K R H0 Hb H a (some v) := by
  obtain ⟨v, r, rfl, h1, _, _, h4⟩ := h
  have h4 : r = [] := h4
  subst h4
  exact ⟨v, rfl, h1⟩
theorem args2 {a b : Sl} {vs : List V} (h : ArgsOk K R H0 Hb H [a, b] vs) : ∃ v w, vs = [v, w] ∧ SlOk K R H0 Hb H a (some v) ∧ SlOk K R H0 Hb H b (some w) := by
  obtain ⟨v, r, rfl, h1, _, _, h4⟩ := h
  obtain ⟨w, rfl, h5⟩ := args1 h4
  exact ⟨v, w, rfl, h1, h5⟩
theorem ints_map : ∀ {ds : List D} {xs : List V} {ns : List Int}, DnL K H xs ds → intsD ds = some ns → xs = ns.map V.int
  | [], _, _, h, q => by cases q; exact h.inv0
  | d :: ds, _, ns, h, q => by
    obtain ⟨v, r, rfl, h1, h2⟩ := h.inv
    cases d <;> simp only [intsD, Option.map_eq_some_iff, reduceCtorEq] at q
    obtain ⟨ms, q1, rfl⟩ := q
    rw [h1.int', ints_map h2 q1]
    rfl
theorem bools_map : ∀ {ds : List D} {xs : List V} {ns : List Bool}, DnL K H xs ds → boolsD ds = some ns → xs = ns.map V.bl
  | [], _, _, h, q => by cases q; exact h.inv0
  | d :: ds, _, ns, h, q => by
    obtain ⟨v, r, rfl, h1, h2⟩ := h.inv
    cases d <;> simp only [boolsD, Option.map_eq_some_iff, reduceCtorEq] at q
    obtain ⟨ms, q1, rfl⟩ := q
    rw [h1.bl', bools_map h2 q1]
    rfl
theorem strs_map : ∀ {ds : List D} {xs : List V} {ns : List Str}, DnL K H xs ds → strsD ds = some ns → xs = ns.map V.str
  | [], _, _, h, q => by cases q; exact h.inv0
  | d :: ds, _, ns, h, q => by
    obtain ⟨v, r, rfl, h1, h2⟩ := h.inv
    cases d <;> simp only [strsD, Option.map_eq_some_iff, reduceCtorEq] at q
    obtain ⟨ms, q1, rfl⟩ := q
    rw [h1.str', strs_map h2 q1]
    rfl
theorem ok_len : CbOk K (fun xs H Q => ∃ p ys, xs = [.ref p] ∧ (SqL K H p ys ∨ SqT K H p ys) ∧ Q (.int ys.length) H) oLen := fun R H0 Hb0 c L Hb H as vs Q k e ha ⟨x, d, n, h1, h2, h3, hk⟩ q => by
  subst h1
  obtain ⟨v, rfl, hx⟩ := args1 ha
  have hd := hx.rd e h2
  have fin := q _ hk (.int n) Hb H (Grow.refl e) (ResOk.im (Dn.int _))
  cases d <;> simp only [lenD, Option.some.injEq, reduceCtorEq] at h3
  · obtain ⟨a, xs, rfl, s, l⟩ := hd.tup'
    exact ⟨a, xs, rfl, .inr s, by rw [l.length, h3]; exact fin⟩
  · obtain ⟨a, xs, rfl, s, l⟩ := hd.lst'
    exact ⟨a, xs, rfl, .inl s, by rw [l.length, h3]; exact fin⟩
theorem ok_sum : CbOk K (rSum K) oSum := fun R H0 Hb0 c L Hb H as vs Q k e ha ⟨x, ds, ns, h1, h2, h3, hk⟩ q => by
  subst h1
  obtain ⟨v, rfl, hx⟩ := args1 ha
  obtain ⟨a, xs, rfl, s, l⟩ := hx.lst e h2
  exact ⟨a, ns, rfl, by rw [← ints_map l h3]; exact s, q _ hk _ Hb H (Grow.refl e) (ResOk.im (Dn.int _))⟩
theorem ok_any : CbOk K (rAny K) oAny := fun R H0 Hb0 c L Hb H as vs Q k e ha ⟨x, ds, ns, h1, h2, h3, hk⟩ q => by
  subst h1
  obtain ⟨v, rfl, hx⟩ := args1 ha
  obtain ⟨a, xs, rfl, s, l⟩ := hx.lst e h2
  exact ⟨a, ns, rfl, by rw [← bools_map l h3]; exact s, q _ hk _ Hb H (Grow.refl e) (ResOk.im (Dn.bl _))⟩
theorem ok_all : CbOk K (rAll K) oAll := fun R H0 Hb0 c L Hb H as vs Q k e ha ⟨x, ds, ns, h1, h2, h3, hk⟩ q => by
  subst h1
  obtain ⟨v, rfl, hx⟩ := args1 ha
  obtain ⟨a, xs, rfl, s, l⟩ := hx.lst e h2
  exact ⟨a, ns, rfl, by rw [← bools_map l h3]; exact s, q _ hk _ Hb H (Grow.refl e) (ResOk.im (Dn.bl _))⟩
theorem ok_tuple : CbOk K (fun xs H Q => ∃ p ys, xs = [.ref p] ∧ ((SqL K H p ys ∧ ∀ l, H l = none → Q (.ref l) (upd H l (.tup ys))) ∨ (SqT K H p ys ∧ Q (.ref p) H))) oTuple := fun R H0 Hb0 c L Hb H as vs Q k e ha ⟨x, ds, h1, h2, hk⟩ q => by
  subst h1
  obtain ⟨v, rfl, hx⟩ := args1 ha
  rcases h2 with h2 | h2
  · obtain ⟨a, xs, rfl, s, l⟩ := hx.lst e h2
    exact ⟨a, xs, rfl, .inl ⟨s, fun p hp => q _ hk _ _ _ (Grow.newB e hp) (ResOk.tup e hp l)⟩⟩
  · obtain ⟨a, xs, rfl, s, sb, l⟩ := hx.tup e h2
    exact ⟨a, xs, rfl, .inr ⟨s, q _ hk _ Hb H (Grow.refl e) (ResOk.im (Dn.tup sb l))⟩⟩
theorem ok_list : CbOk K (fun xs H Q => ∃ p ys, xs = [.ref p] ∧ (SqL K H p ys ∨ SqT K H p ys) ∧ ∀ l, H l = none → Q (.ref l) (upd H l (.lst ys))) oList := fun R H0 Hb0 c L Hb H as vs Q k e ha ⟨x, ds, h1, h2, hk⟩ q => by
  subst h1
  obtain ⟨v, rfl, hx⟩ := args1 ha
  rcases h2 with h2 | h2
  · obtain ⟨a, xs, rfl, s, l⟩ := hx.lst e h2
    exact ⟨a, xs, rfl, .inl s, fun p hp => q _ hk _ _ _ (Grow.new e hp) (ResOk.lst e hp l)⟩
  · obtain ⟨a, xs, rfl, s, sb, l⟩ := hx.tup e h2
    exact ⟨a, xs, rfl, .inr s, fun p hp => q _ hk _ _ _ (Grow.new e hp) (ResOk.lst e hp l)⟩
theorem ok_int1 : CbOk K (fun xs H Q => (∃ i, xs = [.int i] ∧ Q (.int i) H) ∨ ∃ k, xs = [.bl k] ∧ Q (.int (if k then 1 else 0)) H) oInt1 := fun R H0 Hb0 c L Hb H as vs Q k e ha ⟨i, h1, hk⟩ q => by
  subst h1
  obtain ⟨v, rfl, hx⟩ := args1 ha
  have : v = .int i := SlOk.int hx
  subst this
  exact .inl ⟨i, rfl, q _ hk _ Hb H (Grow.refl e) (ResOk.im (Dn.int _))⟩
theorem sqT_ty {a : Addr} {xs : List V} (h : SqT K H a xs) : TyX K H (.ref a) (.type "tuple") := by
  rcases h with (h | ⟨o, h⟩) | ⟨o, its, n, h1, h2, _⟩
  · exact .base (.tup h)
  · exact .fTuple h
  · exact .kTuple h1 h2
theorem sqL_ty {a : Addr} {xs : List V} (h : SqL K H a xs) : TyX K H (.ref a) (.type "list") := by
  rcases h with (h | ⟨o, h⟩) | ⟨o, its, n, h1, h2, _⟩
  · exact .base (.lst h)
  · exact .base (.frz h)
  · exact .kList h1 h2
theorem Dn.tyx {v : V} {d : D} {m : String} (h : Dn K H v d) (q : tyD d = some m) : TyX K H v (.type m) := by
  cases d <;> simp only [tyD, Option.some.injEq, reduceCtorEq] at q <;> subst q
  · rw [h.non']; exact .base .non
  · rw [h.bl']; exact .base (.bl _)
  · rw [h.int']; exact .base (.int _)
  · rw [h.str']; exact .base (.str _)
  · obtain ⟨a, xs, rfl, s, l⟩ := h.tup'
    exact sqT_ty s
  · obtain ⟨a, xs, rfl, s, l⟩ := h.lst'
    exact sqL_ty s
  · obtain ⟨a, xs, rfl, s, _⟩ := h.dic'
    rcases s with s | ⟨o, s⟩
    · exact .base (.dK s)
    · exact .fDict s
theorem ok_isi : CbOk K (rIsi K) oIsi := fun R H0 Hb0 c L Hb H as vs Q k e ha ⟨x, n, d, m, b, h1, h2, h3, h4, hk⟩ q => by
  subst h1
  obtain ⟨v, w, rfl, hx, hy⟩ := args2 ha
  have : w = .ty n := SlOk.ty hy
  subst this
  exact ⟨v, .ty n, _, _, b, rfl, .ty n, (hx.rd e h2).tyx h3, kit_ty h4, q _ hk _ Hb H (Grow.refl e) (ResOk.im (Dn.bl _))⟩
end
end DL

/-! ## DL4 -/
set_option Elab.async false
set_option linter.all false
set_option autoImplicit false
set_option maxRecDepth 100000
set_option maxHeartbeats 400000
namespace DL
open PySem L2
/-! ### tests -/
def dTest (f : SE) : ST := fun s k kx => f s (fun s1 r => ∃ b, r = .im (.bl b) ∧ k s1 b) kx
def dAnd (f g : ST) : ST := fun s k kx => f s (fun s1 b => if b = true then g s1 k kx else k s1 false) kx
def dOr (f g : ST) : ST := fun s k kx => f s (fun s1 b => if b = true then k s1 true else g s1 k kx) kx
def dNot (f : ST) : ST := fun s k kx => f s (fun s1 b => k s1 (!b)) kx
def dAndV (f g : SE) : SE := fun s k kx => f s (fun s1 r => ∃ b, r = .im (.bl b) ∧ if b = true then g s1 k kx else k s1 (.im (.bl false))) kx
def dOrV (f g : SE) : SE := fun s k kx => f s (fun s1 r => ∃ b, r = .im (.bl b) ∧ if b = true then k s1 (.im (.bl true)) else g s1 k kx) kx
def dNotV (f : SE) : SE := fun s k kx => f s (fun s1 r => ∃ b, r = .im (.bl b) ∧ k s1 (.im (.bl (!b)))) kx
def dIf (t : ST) (f g : SE) : SE := fun s k kx => t s (fun s1 b => if b = true then f s1 k kx else g s1 k kx) kx
def truD : D → Option Bool
  | .non => some false
  | .bl b => some b
  | .int i => some (i != 0)
  | .str x => if x.length ≤ 1000000 then some ((x.length : Int) != 0) else none
  | .tup ds => some !ds.isEmpty
  | .lst ds => some !ds.isEmpty
  | _ => none
def dTru (f : SE) : ST := fun s k kx => f s (fun s1 r => ∃ d b, rdD (imm r) = some d ∧ truD d = some b ∧ k s1 b) kx
def dTrue : ST := fun s k _ => k s true
section
variable {K : PySem.W.Frag} {W : WX} {ta tb : TE} {f g : SE} {tt tu : TT} {ft fu : ST}
theorem good_test (ha : GoodE K W ta f) : GoodT K W (tTest ta) (dTest f) := fun R H0 Hb0 s σ τ Hb H Q k kx e hf hk hx => by
  refine ha R H0 Hb0 s σ τ Hb H _ _ _ e hf (fun s1 r ⟨b, h1, h2⟩ v Hb1 H1 e1 b1 q1 => ?_) hx
  subst h1
  exact ⟨b, SlOk.bl q1.1, hk _ _ h2 Hb1 H1 e1 b1⟩
theorem good_B (ha : GoodE K W ta f) : GoodT K W (tB ta) (dTest f) := fun R H0 Hb0 s σ τ Hb H Q k kx e hf hk hx => by
  refine ha R H0 Hb0 s σ τ Hb H _ _ _ e hf (fun s1 r ⟨b, h1, h2⟩ v Hb1 H1 e1 b1 q1 => ?_) hx
  subst h1
  exact ⟨b, SlOk.bl q1.1, hk _ _ h2 Hb1 H1 e1 b1⟩
theorem good_and (ha : GoodT K W tt ft) (hb : GoodT K W tu fu) : GoodT K W (tAnd tt tu) (dAnd ft fu) := fun R H0 Hb0 s σ τ Hb H Q k kx e hf hk hx => by
  refine ha R H0 Hb0 s σ τ Hb H _ _ _ e hf (fun s1 b h Hb1 H1 e1 b1 => ?_) hx
  cases b with
  | true => exact hb R H0 Hb0 s1 σ τ Hb1 H1 _ _ _ e1 h (fun s2 c h2 Hb2 H2 e2 b2 => hk _ _ h2 Hb2 H2 e2 (b2.trans b1)) hx
  | false => exact hk _ _ h Hb1 H1 e1 b1
theorem good_or (ha : GoodT K W tt ft) (hb : GoodT K W tu fu) : GoodT K W (tOr tt tu) (dOr ft fu) := fun R H0 Hb0 s σ τ Hb H Q k kx e hf hk hx => by
  refine ha R H0 Hb0 s σ τ Hb H _ _ _ e hf (fun s1 b h Hb1 H1 e1 b1 => ?_) hx
  cases b with
  | false => exact hb R H0 Hb0 s1 σ τ Hb1 H1 _ _ _ e1 h (fun s2 c h2 Hb2 H2 e2 b2 => hk _ _ h2 Hb2 H2 e2 (b2.trans b1)) hx
  | true => exact hk _ _ h Hb1 H1 e1 b1
theorem good_not (ha : GoodT K W tt ft) : GoodT K W (tNot tt) (dNot ft) := fun R H0 Hb0 s σ τ Hb H Q k kx e hf hk hx =>
  ha R H0 Hb0 s σ τ Hb H _ _ _ e hf (fun s1 b h Hb1 H1 e1 b1 => hk _ _ h Hb1 H1 e1 b1) hx
theorem good_true : GoodT K W tYes dTrue := fun R H0 Hb0 s σ τ Hb H Q k kx e hf hk hx => hk s true hf Hb H e rfl
theorem KOk.next {R : Option Addr} {H0 Hb0 : Hp} {b c : Bool} {σ : L2.St} {τ : LE} {k : S → Sl → Prop} {Q : VK} (h : KOk K R H0 Hb0 b σ τ k Q) (e : c = b) : KOk K R H0 Hb0 c σ τ k Q := e ▸ h
theorem good_andV (ha : GoodE K W ta f) (hb : GoodE K W tb g) : GoodE K W (tAndV ta tb) (dAndV f g) := fun R H0 Hb0 s σ τ Hb H Q k kx e hf hk hx => by
  refine ha R H0 Hb0 s σ τ Hb H _ _ _ e hf (fun s1 r ⟨b, h1, h2⟩ v Hb1 H1 e1 b1 q1 => ?_) hx
  subst h1
  refine ⟨b, SlOk.bl q1.1, ?_⟩
  cases b with
  | true => exact hb R H0 Hb0 s1 σ τ Hb1 H1 _ _ _ e1 h2 (hk.next b1) hx
  | false => exact hk _ _ h2 _ Hb1 H1 e1 b1 (ResOk.im (Dn.bl _))
theorem good_orV (ha : GoodE K W ta f) (hb : GoodE K W tb g) : GoodE K W (tOrV ta tb) (dOrV f g) := fun R H0 Hb0 s σ τ Hb H Q k kx e hf hk hx => by
  refine ha R H0 Hb0 s σ τ Hb H _ _ _ e hf (fun s1 r ⟨b, h1, h2⟩ v Hb1 H1 e1 b1 q1 => ?_) hx
  subst h1
  refine ⟨b, SlOk.bl q1.1, ?_⟩
  cases b with
  | false => exact hb R H0 Hb0 s1 σ τ Hb1 H1 _ _ _ e1 h2 (hk.next b1) hx
  | true => exact hk _ _ h2 _ Hb1 H1 e1 b1 (ResOk.im (Dn.bl _))
theorem good_notV (ha : GoodE K W ta f) : GoodE K W (tNotV ta) (dNotV f) := fun R H0 Hb0 s σ τ Hb H Q k kx e hf hk hx => by
  refine ha R H0 Hb0 s σ τ Hb H _ _ _ e hf (fun s1 r ⟨b, h1, h2⟩ v Hb1 H1 e1 b1 q1 => ?_) hx
  subst h1
  exact ⟨b, SlOk.bl q1.1, hk _ _ h2 _ Hb1 H1 e1 b1 (ResOk.im (Dn.bl _))⟩
theorem good_if (ht : GoodT K W tt ft) (ha : GoodE K W ta f) (hb : GoodE K W tb g) : GoodE K W (tIf tt ta tb) (dIf ft f g) := fun R H0 Hb0 s σ τ Hb H Q k kx e hf hk hx => by
  refine ht R H0 Hb0 s σ τ Hb H _ _ _ e hf (fun s1 b h Hb1 H1 e1 b1 => ?_) hx
  cases b with
  | true => exact ha R H0 Hb0 s1 σ τ Hb1 H1 _ _ _ e1 h (hk.next b1) hx
  | false => exact hb R H0 Hb0 s1 σ τ Hb1 H1 _ _ _ e1 h (hk.next b1) hx
theorem isEmpty_dn {H : Hp} {xs : List V} {ds : List D} (l : DnL K H xs ds) : (!xs.isEmpty) = !ds.isEmpty := by
  have := l.length
  cases xs <;> cases ds <;> simp_all
theorem truV_of {H : Hp} {v : V} {d : D} {b : Bool} (h : Dn K H v d) (q : truD d = some b) : TruV K v H b := by
  cases d <;> simp only [truD, Option.some.injEq, reduceCtorEq] at q
  · rw [h.non']; exact q.symm
  · rw [h.bl']; exact q.symm
  · rw [h.int']; exact q.symm
  · rw [h.str']
    split at q
    · rename_i hl
      exact ⟨line_of hl, (Option.some.inj q).symm⟩
    · cases q
  · obtain ⟨a, xs, rfl, s, l⟩ := h.tup'
    exact .inr (.inl ⟨xs, s, by rw [isEmpty_dn l]; exact q.symm⟩)
  · obtain ⟨a, xs, rfl, s, l⟩ := h.lst'
    exact .inl ⟨xs, s, by rw [isEmpty_dn l]; exact q.symm⟩
theorem good_tru (ha : GoodE K W ta f) : GoodT K W (fun σ H Q => ta σ H fun x H' => ∃ k, TruV K x H' k ∧ Q k H') (dTru f) := fun R H0 Hb0 s σ τ Hb H Q k kx e hf hk hx => by
  refine ha R H0 Hb0 s σ τ Hb H _ _ _ e hf (fun s1 r ⟨d, b, h1, h2, h3⟩ v Hb1 H1 e1 b1 q1 => ?_) hx
  obtain ⟨Hb1', e1', q1'⟩ := e1.imm q1
  exact ⟨b, truV_of (q1'.1.rd e1'.e h1) h2, hk _ _ h3 Hb1' H1 e1' b1⟩
end
/-! ### slices -/
abbrev SO := S → (S → Option Int → Prop) → KX → Prop
def GoodO (K : PySem.W.Frag) (W : WX) (to : TO) (f : SO) : Prop :=
  ∀ R H0 Hb0 s σ τ Hb H (Q : Option Int → Hp → Prop) k kx, Env K R H0 Hb0 s σ τ Hb H → f s k kx →
    (∀ s' o, k s' o → ∀ Hb' H', Env K R H0 Hb0 s' σ τ Hb' H' → s'.b = s.b → Q o H') → XKOk K W R H0 Hb0 σ τ kx → to σ H Q
def tO (K : PySem.W.Frag) (W : WX) (f : SO) : TO := fun σ H Q =>
  ∃ R H0 Hb0 s τ Hb k kx, Env K R H0 Hb0 s σ τ Hb H ∧ f s k kx ∧
    (∀ s' o, k s' o → ∀ Hb' H', Env K R H0 Hb0 s' σ τ Hb' H' → s'.b = s.b → Q o H') ∧ XKOk K W R H0 Hb0 σ τ kx
theorem goodO {K : PySem.W.Frag} {W : WX} {f : SO} : GoodO K W (tO K W f) f := fun R H0 Hb0 s σ τ Hb H Q k kx e hf hk hx => ⟨R, H0, Hb0, s, τ, Hb, k, kx, e, hf, hk, hx⟩
theorem doG {X : Cx} {W : WX} {e : Option Expr} {tt : TO} {f : SO} (h : PO X e tt) (g : GoodO X.K W tt f) : PO X e (tO X.K W f) :=
  ⟨fun pins s σ H Q I ⟨R, H0, Hb0, s', τ, Hb, k, kx, e, hf, hk, hx⟩ => h.run pins s σ H Q I (g R H0 Hb0 s' σ τ Hb H Q k kx e hf hk hx)⟩
def dNoP : SO := fun s k _ => k s none
def dPart (f : SE) : SO := fun s k kx => f s (fun s1 r => ∃ i, r = .im (.int i) ∧ k s1 (some i)) kx
def dSl (op : Sl → Option Int → Option Int → (Sl → Prop) → Prop) (f : SE) (lo hi : SO) : SE := fun s k kx =>
  f s (fun s1 a => lo (pend (imm a) s1) (fun s2 l => hi s2 (fun s3 u => op (imm a) l u (k { s3 with b := s1.b })) kx) kx) kx
def cutD {α : Type} (xs : List α) (lo hi : Option Int) : List α := (xs.drop (HT.sIx xs.length 0 lo)).take (HT.sIx xs.length xs.length hi - HT.sIx xs.length 0 lo)
def oSlT : Sl → Option Int → Option Int → (Sl → Prop) → Prop := fun x lo hi k => ∃ ds, x = .im (.tup ds) ∧ k (.im (.tup (cutD ds lo hi)))
def oSlL : Sl → Option Int → Option Int → (Sl → Prop) → Prop := fun x lo hi k => ∃ ds, rdD x = some (.lst ds) ∧ k (.own (.lst (cutD ds lo hi)))
def SlcOk (K : PySem.W.Frag) (r : V → Option Int → Option Int → Hp → VK → Prop) (op : Sl → Option Int → Option Int → (Sl → Prop) → Prop) : Prop :=
  ∀ R H0 Hb0 c L Hb H x lo hi v (Q : VK) (k : Sl → Prop), EnvL K R H0 Hb0 c L Hb H → SlOk K R H0 Hb H x (some v) → op x lo hi k →
    (∀ r, k r → ∀ u Hb' H', Grow K R c Hb H Hb' H' → ResOk K R H0 L Hb' H' r u → Q u H') → r v lo hi H Q
section
variable {K : PySem.W.Frag} {W : WX} {ta : TE} {f : SE} {tl th : TO} {fl fh : SO}
theorem good_noP : GoodO K W tNoPart dNoP := fun R H0 Hb0 s σ τ Hb H Q k kx e hf hk hx => hk s none hf Hb H e rfl
theorem good_part (ha : GoodE K W ta f) : GoodO K W (tPart ta) (dPart f) := fun R H0 Hb0 s σ τ Hb H Q k kx e hf hk hx => by
  refine ha R H0 Hb0 s σ τ Hb H _ _ _ e hf (fun s1 r ⟨b, h1, h2⟩ v Hb1 H1 e1 b1 q1 => ?_) hx
  subst h1
  exact ⟨b, SlOk.int q1.1, hk _ _ h2 Hb1 H1 e1 b1⟩
theorem good_sl {r : V → Option Int → Option Int → Hp → VK → Prop} {op : Sl → Option Int → Option Int → (Sl → Prop) → Prop} (ho : SlcOk K r op) (ha : GoodE K W ta f) (hl : GoodO K W tl fl) (hh : GoodO K W th fh) : GoodE K W (tSl r ta tl th) (dSl op f fl fh) := fun R H0 Hb0 s σ τ Hb H Q k kx e hf hk hx => by
  refine ha R H0 Hb0 s σ τ Hb H _ _ _ e hf (fun s1 a hg v Hb1 H1 e1 b1 q1 => ?_) hx
  obtain ⟨Hb1', e1', q1'⟩ := e1.imm q1
  refine hl R H0 Hb0 _ σ _ Hb1' H1 _ _ _ (e1'.push q1') hg (fun s2 l h2 Hb2 H2 e2 b2 => ?_) hx.pop
  refine hh R H0 Hb0 _ σ _ Hb2 H2 _ _ _ e2 h2 (fun s3 u h3 Hb3 H3 e3 b3 => ?_) hx.pop
  have e4 : Env K R H0 Hb0 { s3 with b := s1.b } σ τ Hb3 H3 := e3.pop.unb fun z => e1.nbt z
  exact ho R H0 Hb0 s3.c _ Hb3 H3 _ l u v Q _ e4.e e3.top h3 fun r hr u Hb5 H5 g q5 => hk _ _ hr u Hb5 H5 (e4.grow g) b1 q5
theorem cutD_dn {H : Hp} {xs : List V} {ds : List D} (l : DnL K H xs ds) (lo hi : Option Int) : DnL K H (cutV xs lo hi) (cutD ds lo hi) := by
  unfold cutV cutD
  rw [l.length]
  exact (l.drop _).take _
theorem cutD_whole {α : Type} {xs : List α} {lo hi : Option Int} (h : HT.sIx xs.length 0 lo = 0 ∧ HT.sIx xs.length xs.length hi = xs.length) : cutD xs lo hi = xs := by
  unfold cutD
  rw [h.1, h.2]
  simp
theorem ok_slT : SlcOk K (rSlA K) oSlT := fun R H0 Hb0 c L Hb H x lo hi v Q k e hx ⟨ds, h1, hk⟩ q => by
  obtain ⟨a, xs, rfl, s, sb, l⟩ := hx.tup e h1
  refine ⟨a, xs, rfl, s, fun z => ?_, fun _ p hp => q _ hk _ _ _ (Grow.newB e hp) (ResOk.tup e hp (cutD_dn l lo hi))⟩
  rw [l.length] at z
  rw [cutD_whole z] at hk
  exact q _ hk _ Hb H (Grow.refl e) (ResOk.im (Dn.tup sb l))
theorem ok_slL : SlcOk K (rSlL K) oSlL := fun R H0 Hb0 c L Hb H x lo hi v Q k e hx ⟨ds, h1, hk⟩ q => by
  obtain ⟨a, xs, rfl, s, l⟩ := hx.lst e h1
  exact ⟨a, xs, rfl, s, fun p hp => q _ hk _ _ _ (Grow.new e hp) (ResOk.lst e hp (cutD_dn l lo hi))⟩
end
/-! ### calls of defs -/
abbrev SF := Nat → List Sl → (Nat → Sl → Prop) → (Nat → XD → Prop) → Prop
def argIm : Sl → Bool
  | .im _ => true
  | .rng => true
  | _ => false
def RetOk (K : PySem.W.Frag) (R : Option Addr) (H0 Hb0 : Hp) (c : Nat) (r : Sl) (v : V) (Hb H : Hp) : Prop :=
  EnvL K R H0 Hb0 c [] Hb H ∧ ResOk K R H0 [] Hb H r v ∧ (∀ d, r ≠ .bor d) ∧ ∀ d, r ≠ .tmp d
def spD (K : PySem.W.Frag) (n : Nat) (G : SF) : Sp := fun vs H Q E => vs.length = n ∧ ∃ R Hb c as k kx, EnvL K R H Hb c [] Hb H ∧ ArgsOk K R H Hb H as vs ∧ as.all argIm = true ∧ G c as k kx ∧
  (∀ c' r, k c' r → ∀ v Hb' H', RetOk K R H Hb c' r v Hb' H' → Q v H') ∧ (∀ c' x, kx c' x → ∀ cls d Hb' H', EnvL K R H Hb c' [] Hb' H' → XOk x cls d H' → E cls d H')
def dCall (n : Nat) (G : SF) (f : SA) : SE := fun s k kx => f s (fun s1 as => as.length = n ∧ as.all argIm = true ∧ G s1.c as (fun c r => k { s1 with c := c } r) (fun c x => kx { s1 with c := c } x)) kx
section
variable {K : PySem.W.Frag} {W : WX} {tas : TA} {fs : SA}
theorem EnvL.enter {R : Option Addr} {H0 Hb0 Hb H : Hp} {c : Nat} {L : LE} (e : EnvL K R H0 Hb0 c L Hb H) : EnvL K R H Hb c [] Hb H :=
  ⟨fun _ _ h _ => h, Sub.refl _, fun _ _ _ => rfl, e.sub, e.rng, fun i t q => by simp at q, fun i j a ⟨d, q⟩ => by simp at q, fun i j a ⟨d, q⟩ => by simp at q⟩
theorem EnvL.left {R : Option Addr} {Hb Hb' H H' : Hp} {c : Nat} {L : LE} (e : EnvL K R H Hb c L Hb' H') : Grow K R c Hb H Hb' H' := ⟨e.keep, e.bas, e.fr, e.sub, e.rng⟩
theorem ArgsOk.floor {R : Option Addr} {H0 H1 Hb H : Hp} : ∀ {as : List Sl} {vs : List V}, as.all argIm = true → ArgsOk K R H0 Hb H as vs → ArgsOk K R H1 Hb H as vs
  | [], vs, _, h => h
  | a :: as, vs, q, h => by
    obtain ⟨v, r, rfl, h1, h2, h3, h4⟩ := h
    rw [List.all_cons, Bool.and_eq_true] at q
    refine ⟨v, r, rfl, ?_, h2, h3, ArgsOk.floor q.2 h4⟩
    cases a <;> first | exact h1 | simp [argIm] at q
theorem ResOk.back {R : Option Addr} {H0 Hb0 Hb H Hb' H' : Hp} {c c' : Nat} {L : LE} {r : Sl} {v : V} (e : EnvL K R H0 Hb0 c L Hb H) (g : Grow K R c' Hb H Hb' H') (h : ResOk K R H [] Hb' H' r v) (hb : ∀ d, r ≠ .bor d) (ht : ∀ d, r ≠ .tmp d) : ResOk K R H0 L Hb' H' r v := by
  obtain ⟨h1, h2, _⟩ := h
  cases r with
  | no => exact absurd rfl h2
  | im d => exact ResOk.im h1
  | rng => exact ResOk.rng h1
  | bor d => exact absurd rfl (hb d)
  | tmp d => exact absurd rfl (ht d)
  | own d =>
    obtain ⟨a, o, rfl, f2, f3, f4, f5, f6⟩ := h1
    exact ⟨⟨a, o, rfl, f2, f3, e.h0fresh f4, f5, f6⟩, h2, fun _ b hb i => by cases hb; exact e.noown f4 i, fun ⟨_, z⟩ => by simp at z, fun ⟨_, z⟩ => by simp at z⟩
theorem good_callS {G : SF} {n : Nat} (ha : GoodA K W tas fs) : GoodE K W (tCallS (spD K n G) (WE W) tas) (dCall n G fs) := fun R H0 Hb0 s σ τ Hb H Q k kx e hf hk hx => by
  refine ha R H0 Hb0 s σ τ Hb H _ _ _ e hf (fun s1 as ⟨hl, hop⟩ vs Hb1 H1 e1 b1 q1 => ?_) hx
  refine ⟨(args_len q1).trans hl, R, Hb1, s1.c, as, _, _, e1.e.enter, q1.floor hop.1, hop.1, hop.2, fun c' r hr v Hb' H' ret => ?_, fun c' x hxx cls d Hb' H' e' xo => ?_⟩
  · obtain ⟨e2, r2, r3, r4⟩ := ret
    have g := e2.left
    exact hk _ _ hr v Hb' H' (e1.grow g) b1 (ResOk.back e1.e g r2 r3 r4)
  · exact hx _ x hxx cls d Hb' H' (e1.grow e'.left) xo
end
end DL

/-! ## DL5 -/
set_option Elab.async false
set_option linter.all false
set_option autoImplicit false
set_option maxRecDepth 100000
set_option maxHeartbeats 400000
namespace DL
open PySem L2
/-! ### statements -/
structure DE where
  nx : S → Prop
  rt : Nat → Sl → Prop
  bk : S → Prop
  ct : S → Prop
  ex : KX
abbrev SS := DE → S → Prop
structure EndsOk (K : PySem.W.Frag) (W : WX) (R : Option Addr) (H0 Hb0 : Hp) (τ : LE) (E : DE) (D : Ends) : Prop where
  nx : ∀ s' σ' Hb' H', E.nx s' → Env K R H0 Hb0 s' σ' τ Hb' H' → s'.b = false → D.nx σ' H'
  bk : ∀ s' σ' Hb' H', E.bk s' → Env K R H0 Hb0 s' σ' τ Hb' H' → s'.b = false → D.bk σ' H'
  ct : ∀ s' σ' Hb' H', E.ct s' → Env K R H0 Hb0 s' σ' τ Hb' H' → s'.b = false → D.ct σ' H'
  rt : ∀ c r v Hb' H', E.rt c r → RetOk K R H0 Hb0 c r v Hb' H' → D.rt v H'
  ex : ∀ s' x, E.ex s' x → ∀ cls d σ' Hb' H', Env K R H0 Hb0 s' σ' τ Hb' H' → XOk x cls d H' → W cls d σ' H'
theorem EndsOk.xk {K : PySem.W.Frag} {W : WX} {R : Option Addr} {H0 Hb0 : Hp} {τ : LE} {E : DE} {D : Ends} {σ : L2.St} (h : EndsOk K W R H0 Hb0 τ E D) : XKOk K W R H0 Hb0 σ τ E.ex :=
  fun s' x q cls d Hb' H' e xo => h.ex s' x q cls d σ Hb' H' e xo
def GoodS (K : PySem.W.Frag) (W : WX) (ts : TS) (f : SS) : Prop :=
  ∀ R H0 Hb0 s σ τ Hb H D E, Env K R H0 Hb0 s σ τ Hb H → s.b = false → f E s → EndsOk K W R H0 Hb0 τ E D → ts D σ H
def tS (K : PySem.W.Frag) (W : WX) (f : SS) : TS := fun D σ H =>
  ∃ R H0 Hb0 s τ Hb E, Env K R H0 Hb0 s σ τ Hb H ∧ s.b = false ∧ f E s ∧ EndsOk K W R H0 Hb0 τ E D
theorem goodS {K : PySem.W.Frag} {W : WX} {f : SS} : GoodS K W (tS K W f) f := fun R H0 Hb0 s σ τ Hb H D E e hb hf he => ⟨R, H0, Hb0, s, τ, Hb, E, e, hb, hf, he⟩
theorem dsG {X : Cx} {W : WX} {st : Stmt} {ts : TS} {f : SS} (h : PS X st ts) (g : GoodS X.K W ts f) : PS X st (tS X.K W f) :=
  ⟨fun pins s σ H D I ⟨R, H0, Hb0, s', τ, Hb, E, e, hb, hf, he⟩ => h.run pins s σ H D I (g R H0 Hb0 s' σ τ Hb H D E e hb hf he)⟩
theorem dssG {X : Cx} {W : WX} {st : List Stmt} {ts : TS} {f : SS} (h : PSs X st ts) (g : GoodS X.K W ts f) : PSs X st (tS X.K W f) :=
  ⟨fun pins s σ H D I ⟨R, H0, Hb0, s', τ, Hb, E, e, hb, hf, he⟩ => h.run pins s σ H D I (g R H0 Hb0 s' σ τ Hb H D E e hb hf he)⟩
def dNext : SS := fun E s => E.nx s
def dSeq (f g : SS) : SS := fun E s => f { E with nx := g E } s
def dIfS (t : ST) (f g : SS) : SS := fun E s => t s (fun s1 b => if b = true then f E s1 else g E s1) E.ex
def retable : Sl → Prop
  | .bor _ => False
  | .tmp _ => False
  | _ => True
def dRet (f : SE) : SS := fun E s => f s (fun s1 r => retable r ∧ E.rt s1.c r) E.ex
def dRetN : SS := fun E s => E.rt s.c (.im .non)
def dDrop (f : SE) : SS := fun E s => f s (fun s1 _ => E.nx s1) E.ex
def dBrk : SS := fun E s => E.bk s
def dCnt : SS := fun E s => E.ct s
def dSet (i : Nat) (f : SE) : SS := fun E s => f s (fun s1 r => retable r ∧ E.nx { s1 with Γ := s1.Γ.set i r }) E.ex
def dRaise (C : Addr) : SS := fun E s => E.ex s ⟨.ref C, none⟩
/-- name op= e, of ints -/
def dAug (i : Nat) (op : Int → Int → Int) (f : SE) : SS := fun E s => ∃ a, s.Γ[i]? = some (.im (.int a)) ∧ f s (fun s1 r => ∃ b, r = .im (.int b) ∧ E.nx { s1 with Γ := s1.Γ.set i (.im (.int (op a b))) }) E.ex
/-- xs.append(e) -/
def dApp (i : Nat) (f : SE) : SS := fun E s => ∃ ds, s.Γ[i]? = some (.own (.lst ds)) ∧ ds.length ≤ 1000000 ∧
  f s (fun s1 r => ∃ d, imm r = .im d ∧ s1.Γ[i]? = some (.own (.lst ds)) ∧ E.nx { s1 with Γ := s1.Γ.set i (.own (.lst (ds ++ [d]))) }) E.ex
/-! targets -/
abbrev TD := D → S → (S → Prop) → Prop
def gN (i : Nat) : TD := fun d s k => k { s with Γ := s.Γ.set i (.im d) }
def gT2 (g1 g2 : TD) : TD := fun d s k => ∃ a b, d = .tup [a, b] ∧ g1 a s fun s1 => g2 b s1 k
def gT3 (g1 g2 g3 : TD) : TD := fun d s k => ∃ a b c, d = .tup [a, b, c] ∧ g1 a s fun s1 => g2 b s1 fun s2 => g3 c s2 k
/-- what is outside of vs stays -/
def Keeps (vs : List Nat) (s s' : S) (σ σ' : L2.St) : Prop := s'.b = s.b ∧ s'.c = s.c ∧ s'.Γ.length = s.Γ.length ∧ σ'.length = σ.length ∧ ∀ j, j ∉ vs → s'.Γ[j]? = s.Γ[j]? ∧ σ'[j]? = σ[j]?
theorem Keeps.refl (vs : List Nat) (s : S) (σ : L2.St) : Keeps vs s s σ σ := ⟨rfl, rfl, rfl, rfl, fun _ _ => ⟨rfl, rfl⟩⟩
theorem Keeps.trans {vs us : List Nat} {s s' s2 : S} {σ σ' σ2 : L2.St} (a : Keeps vs s s' σ σ') (b : Keeps us s' s2 σ' σ2) : Keeps (vs ++ us) s s2 σ σ2 :=
  ⟨b.1.trans a.1, b.2.1.trans a.2.1, b.2.2.1.trans a.2.2.1, b.2.2.2.1.trans a.2.2.2.1, fun j hj => by
    rw [List.mem_append, not_or] at hj
    have h1 := a.2.2.2.2 j hj.1
    have h2 := b.2.2.2.2 j hj.2
    exact ⟨h2.1.trans h1.1, h2.2.trans h1.2⟩⟩
def GoodG (K : PySem.W.Frag) (vs : List Nat) (g : TG) (f : TD) : Prop := ∀ R H0 Hb0 s σ τ Hb H v d (Q : L2.St → Hp → Prop) k, Env K R H0 Hb0 s σ τ Hb H → Dn K Hb v d → f d s k →
  (∀ s' σ', k s' → Env K R H0 Hb0 s' σ' τ Hb H → Keeps vs s s' σ σ' → Q σ' H) → g v σ H Q
def dAsgT (g : TD) (f : SE) : SS := fun E s => f s (fun s1 r => ∃ d, imm r = .im d ∧ g d s1 E.nx) E.ex
section
variable {K : PySem.W.Frag} {W : WX} {R : Option Addr} {H0 Hb0 Hb H Hb' H' : Hp} {s : S} {σ : L2.St} {τ : LE} {r : Sl} {v : V}
theorem retable_bor (h : retable r) : (∀ d, r ≠ .bor d) ∧ ∀ d, r ≠ .tmp d := by
  cases r <;> simp_all [retable]
theorem put_out {i : Nat} (hi : ¬ i < s.Γ.length) (e : Env K R H0 Hb0 s σ τ Hb H) : Env K R H0 Hb0 { s with Γ := s.Γ.set i r } (σ.set i (some v)) τ Hb H := by
  have h1 : s.Γ.set i r = s.Γ := by rw [List.set_eq_of_length_le (by omega)]
  have h2 : σ.set i (some v) = σ := by rw [List.set_eq_of_length_le (by have := e.len; omega)]
  rw [h2]
  have : ({ s with Γ := s.Γ.set i r } : S) = s := by rw [h1]
  rw [this]
  exact e
theorem Env.put' {i : Nat} (e : Env K R H0 Hb0 s σ τ Hb H) (h : ResOk K R H0 (s.Γ.zip σ ++ τ) Hb H r v) (hb : retable r) : Env K R H0 Hb0 { s with Γ := s.Γ.set i r } (σ.set i (some v)) τ Hb H := by
  by_cases hi : i < s.Γ.length
  · exact e.put h (retable_bor hb).1 (retable_bor hb).2 hi
  · exact put_out hi e
theorem Env.ret (e : Env K R H0 Hb0 s σ τ Hb H) (h : ResOk K R H0 (s.Γ.zip σ ++ τ) Hb H r v) (hb : retable r) : RetOk K R H0 Hb0 s.c r v Hb H := by
  refine ⟨e.e.weak fun i t q => by simp at q, ⟨h.1, h.2.1, fun _ a _ i ⟨d, q⟩ => by simp at q, fun _ a _ i ⟨d, q⟩ => by simp at q, fun _ a _ i ⟨d, q⟩ => by simp at q⟩, retable_bor hb⟩
variable {ts tu : TS} {f g : SS} {te : TE} {fe : SE} {tt : TT} {ft : ST}
theorem good_next : GoodS K W tNext dNext := fun R H0 Hb0 s σ τ Hb H D E e hb hf he => he.nx s σ Hb H hf e hb
theorem good_seq (h1 : GoodS K W ts f) (h2 : GoodS K W tu g) : GoodS K W (tSeq ts tu) (dSeq f g) := fun R H0 Hb0 s σ τ Hb H D E e hb hf he =>
  h1 R H0 Hb0 s σ τ Hb H _ _ e hb hf ⟨fun s' σ' Hb' H' q e' b' => h2 R H0 Hb0 s' σ' τ Hb' H' D E e' b' q he, he.bk, he.ct, he.rt, he.ex⟩
theorem good_ifS (ht : GoodT K W tt ft) (h1 : GoodS K W ts f) (h2 : GoodS K W tu g) : GoodS K W (tIfS tt ts tu) (dIfS ft f g) := fun R H0 Hb0 s σ τ Hb H D E e hb hf he => by
  refine ht R H0 Hb0 s σ τ Hb H _ _ _ e hf (fun s1 b h Hb1 H1 e1 b1 => ?_) he.xk
  cases b with
  | true => exact h1 R H0 Hb0 s1 σ τ Hb1 H1 D E e1 (b1.trans hb) h he
  | false => exact h2 R H0 Hb0 s1 σ τ Hb1 H1 D E e1 (b1.trans hb) h he
theorem good_ret (h : GoodE K W te fe) : GoodS K W (tRet te) (dRet fe) := fun R H0 Hb0 s σ τ Hb H D E e hb hf he =>
  h R H0 Hb0 s σ τ Hb H _ _ _ e hf (fun s1 r ⟨h1, h2⟩ v Hb1 H1 e1 b1 q1 => he.rt _ _ v Hb1 H1 h2 (e1.ret q1 h1)) he.xk
theorem good_retN : GoodS K W tRetN dRetN := fun R H0 Hb0 s σ τ Hb H D E e hb hf he => he.rt _ _ _ Hb H hf (e.ret (ResOk.im Dn.non) trivial)
theorem good_drop (h : GoodE K W te fe) : GoodS K W (tDrop te) (dDrop fe) := fun R H0 Hb0 s σ τ Hb H D E e hb hf he =>
  h R H0 Hb0 s σ τ Hb H _ _ _ e hf (fun s1 r h1 v Hb1 H1 e1 b1 q1 => he.nx s1 σ Hb1 H1 h1 e1 (b1.trans hb)) he.xk
theorem good_brk : GoodS K W tBreak dBrk := fun R H0 Hb0 s σ τ Hb H D E e hb hf he => he.bk s σ Hb H hf e hb
theorem good_cnt : GoodS K W tCont dCnt := fun R H0 Hb0 s σ τ Hb H D E e hb hf he => he.ct s σ Hb H hf e hb
theorem good_set {i : Nat} (h : GoodE K W te fe) : GoodS K W (tAsg te (gName i)) (dSet i fe) := fun R H0 Hb0 s σ τ Hb H D E e hb hf he =>
  h R H0 Hb0 s σ τ Hb H _ _ _ e hf (fun s1 r ⟨h1, h2⟩ v Hb1 H1 e1 b1 q1 => he.nx _ _ Hb1 H1 h2 (e1.put' q1 h1) (b1.trans hb)) he.xk
theorem good_gN (i : Nat) : GoodG K [i] (gName i) (gN i) := fun R H0 Hb0 s σ τ Hb H v d Q k e hd hf hk => hk _ _ hf (e.put' (r := .im d) (ResOk.im hd) trivial)
  ⟨rfl, rfl, by simp, by simp, fun j hj => by
    have : i ≠ j := fun z => hj (by simp [z])
    exact ⟨by simp [List.getElem?_set_ne this], by simp [List.getElem?_set_ne this]⟩⟩
theorem good_gT2 {us vs : List Nat} {g1 g2 : TG} {f1 f2 : TD} (h1 : GoodG K us g1 f1) (h2 : GoodG K vs g2 f2) : GoodG K (us ++ vs) (gTup K 2 (gCons g1 (gCons g2 gNil))) (gT2 f1 f2) := fun R H0 Hb0 s σ τ Hb H v d Q k e hd ⟨a, b, hab, hf⟩ hk => by
  subst hab
  obtain ⟨p, xs, rfl, s1, l⟩ := Dn.tup' hd
  obtain ⟨x, r, rfl, hx, l⟩ := l.inv
  obtain ⟨y, r, rfl, hy, l⟩ := l.inv
  have l := l.inv0
  subst l
  refine ⟨p, [x, y], rfl, e.e.subH.sqT s1, rfl, x, [y], rfl, ?_⟩
  refine h1 R H0 Hb0 s σ τ Hb H x a _ _ e hx hf fun s' σ' q e' k' => ?_
  refine ⟨y, [], rfl, ?_⟩
  exact h2 R H0 Hb0 s' σ' τ Hb H y b _ _ e' hy q fun s2 σ2 q2 e2 k2 => ⟨rfl, hk s2 σ2 q2 e2 (k'.trans k2)⟩
theorem good_gT3 {us vs ws : List Nat} {g1 g2 g3 : TG} {f1 f2 f3 : TD} (h1 : GoodG K us g1 f1) (h2 : GoodG K vs g2 f2) (h3 : GoodG K ws g3 f3) : GoodG K (us ++ (vs ++ ws)) (gTup K 3 (gCons g1 (gCons g2 (gCons g3 gNil)))) (gT3 f1 f2 f3) := fun R H0 Hb0 s σ τ Hb H v d Q k e hd ⟨a, b, c, hab, hf⟩ hk => by
  subst hab
  obtain ⟨p, xs, rfl, s1, l⟩ := Dn.tup' hd
  obtain ⟨x, r, rfl, hx, l⟩ := l.inv
  obtain ⟨y, r, rfl, hy, l⟩ := l.inv
  obtain ⟨z, r, rfl, hz, l⟩ := l.inv
  have l := l.inv0
  subst l
  refine ⟨p, [x, y, z], rfl, e.e.subH.sqT s1, rfl, x, [y, z], rfl, ?_⟩
  refine h1 R H0 Hb0 s σ τ Hb H x a _ _ e hx hf fun s' σ' q e' k1 => ?_
  refine ⟨y, [z], rfl, ?_⟩
  refine h2 R H0 Hb0 s' σ' τ Hb H y b _ _ e' hy q fun s2 σ2 q2 e2 k2 => ?_
  refine ⟨z, [], rfl, ?_⟩
  exact h3 R H0 Hb0 s2 σ2 τ Hb H z c _ _ e2 hz q2 fun s3 σ3 q3 e3 k3 => ⟨rfl, hk s3 σ3 q3 e3 (k1.trans (k2.trans k3))⟩
theorem good_asgT {vs : List Nat} {gt : TG} {gd : TD} (hg : GoodG K vs gt gd) (h : GoodE K W te fe) : GoodS K W (tAsg te gt) (dAsgT gd fe) := fun R H0 Hb0 s σ τ Hb H D E e hb hf he =>
  h R H0 Hb0 s σ τ Hb H _ _ _ e hf (fun s1 r ⟨d, h1, h2⟩ v Hb1 H1 e1 b1 q1 => by
    obtain ⟨Hb1', e1', q1'⟩ := e1.imm q1
    rw [h1] at q1'
    exact hg R H0 Hb0 s1 σ τ Hb1' H1 v d _ _ e1' q1'.1 h2 fun s' σ' q e' kp => he.nx s' σ' Hb1' H1 q e' (kp.1.trans (b1.trans hb))) he.xk
theorem good_aug {i : Nat} {op : Int → Int → Int} (h : GoodE K W te fe) : GoodS K W (tAug i te (ipI op)) (dAug i op fe) := fun R H0 Hb0 s σ τ Hb H D E e hb ⟨a, h0, hf⟩ he => by
  obtain ⟨v, h1, h2, h3⟩ := e.slot h0 (by simp)
  refine ⟨v, h1, ?_⟩
  refine h R H0 Hb0 s σ τ Hb H _ _ _ e hf (fun s1 r ⟨b, h4, h5⟩ w Hb1 H1 e1 b1 q1 => ?_) he.xk
  subst h4
  exact ⟨a, b, SlOk.int h2, SlOk.int q1.1, he.nx _ _ Hb1 H1 h5 (e1.put' (r := .im (.int (op a b))) (ResOk.im (Dn.int _)) trivial) (b1.trans hb)⟩
theorem borAt_none (e : Env K R H0 Hb0 s σ τ Hb H) (hb : s.b = false) (j : Nat) (b : Addr) : ¬ BorAt (s.Γ.zip σ ++ τ) j b := fun ⟨d, q⟩ => by
  have hm := List.mem_of_getElem? q
  rcases List.mem_append.mp hm with hm | hm
  · exact e.nb _ (List.of_mem_zip hm).1 d rfl
  · exact e.nbt hb _ hm d rfl
/-- an own slot is written -/
theorem Env.wr {i : Nat} {a : Addr} {d d' : D} {o' : HO} (e : Env K R H0 Hb0 s σ τ Hb H) (hb : s.b = false) (h : s.Γ[i]? = some (.own d)) (hσ : σ[i]? = some (some (.ref a))) (ho : DnO K Hb o' d') :
    Env K R H0 Hb0 { s with Γ := s.Γ.set i (.own d') } σ τ Hb (upd H a o') := by
  obtain ⟨v, h1, h2, h3⟩ := e.slot h (by simp)
  rw [hσ] at h1
  cases h1
  have hi := (List.getElem?_eq_some_iff.mp h).1
  refine ⟨by simpa using e.len, fun t ht d => ?_, e.nbt, ?_⟩
  · rcases mem_set ht with h | h
    · exact e.nb t h d
    · rw [h]; simp
  · have q := e.e.write h3 (r' := .own d') (.inl ⟨rfl, rfl, fun j b => borAt_none e hb j b⟩) ho
    rw [← zip_setτ e.len hi, set_self hσ] at q
    exact q
theorem good_app {i : Nat} (h : GoodE K W te fe) : GoodS K W (tDrop (tBM K "list" rAppend (tVar i) (tCons te tNil))) (dApp i fe) := fun R H0 Hb0 s σ τ Hb H D E e hb ⟨ds, h0, hl, hf⟩ he => by
  obtain ⟨v, h1, h2, h3⟩ := e.slot h0 (by simp)
  obtain ⟨a, o, rfl, f2, f3, f4, f5, f6⟩ := h2
  cases f6 with
  | @lst xs _ l =>
    refine ⟨_, h1, .inl ⟨rfl, xs, SqL.of f5⟩, ?_⟩
    refine h R H0 Hb0 s σ τ Hb H _ _ _ e hf (fun s1 r ⟨d, g1, g2, g3⟩ w Hb1 H1 e1 b1 q1 => ?_) he.xk
    obtain ⟨Hb1', e1', q1'⟩ := e1.imm q1
    rw [g1] at q1'
    obtain ⟨v', k1, k2, k3⟩ := e1'.slot g2 (by simp)
    rw [h1] at k1
    cases k1
    obtain ⟨a', o', e', f2', f3', f4', f5', f6'⟩ := k2
    cases e'
    cases f6' with
    | @lst xs' _ l' =>
      refine ⟨a, xs', w, rfl, rfl, f5', by rw [l'.length]; exact lt_line_of hl, ?_⟩
      exact he.nx _ _ _ _ g3 (e1'.wr (b1.trans hb) g2 h1 (.lst (l'.append (.one q1'.1)))) (b1.trans hb)
end
end DL

/-! ## DL6 -/
set_option Elab.async false
set_option linter.all false
set_option autoImplicit false
set_option maxRecDepth 100000
set_option maxHeartbeats 400000
namespace DL
open PySem L2
/-! ### what is walked -/
abbrev SI := S → (S → List D → Prop) → KX → Prop
def IterOk (K : PySem.W.Frag) (R : Option Addr) (t : Sl × Option V) (J : It) (ds : List D) : Prop :=
  ∀ H0 Hb0 c L Hb H, EnvL K R H0 Hb0 c L Hb H → t ∈ L → (∀ i, i < ds.length → J.go i H) ∧ J.stop ds.length H ∧
    ∀ (i : Nat) x H' d, ds[i]? = some d → J.yld i H x H' → ∃ Hb', Grow K R c Hb H Hb' H' ∧ Dn K Hb' x d
def GoodI (K : PySem.W.Frag) (W : WX) (wi : TI) (f : SI) : Prop :=
  ∀ R H0 Hb0 s σ τ Hb H (Rr : It → Hp → Prop) k kx, Env K R H0 Hb0 s σ τ Hb H → f s k kx →
    (∀ s' ds, k s' ds → ∀ Hb' H' J t, Env K R H0 Hb0 s' σ (τ ++ [t]) Hb' H' → IterOk K R t J ds → Rr J H') → XKOk K W R H0 Hb0 σ τ kx → wi σ H Rr
def tI (K : PySem.W.Frag) (W : WX) (f : SI) : TI := fun σ H Rr => ∃ R H0 Hb0 s τ Hb k kx, Env K R H0 Hb0 s σ τ Hb H ∧ f s k kx ∧
    (∀ s' ds, k s' ds → ∀ Hb' H' J t, Env K R H0 Hb0 s' σ (τ ++ [t]) Hb' H' → IterOk K R t J ds → Rr J H') ∧ XKOk K W R H0 Hb0 σ τ kx
theorem goodI {K : PySem.W.Frag} {W : WX} {f : SI} : GoodI K W (tI K W f) f := fun R H0 Hb0 s σ τ Hb H Q k kx e hf hk hx => ⟨R, H0, Hb0, s, τ, Hb, k, kx, e, hf, hk, hx⟩
theorem diG {X : Cx} {W : WX} {tg iter : Expr} {wi : TI} {f : SI} (h : PI X tg iter wi) (g : GoodI X.K W wi f) : PI X tg iter (tI X.K W f) :=
  ⟨fun pins s σ H Q I ⟨R, H0, Hb0, s', τ, Hb, k, kx, e, hf, hk, hx⟩ => h.run pins s σ H Q I (g R H0 Hb0 s' σ τ Hb H Q k kx e hf hk hx)⟩
/-- a list, a tuple -/
def dIt (f : SE) : SI := fun s k kx => f s (fun s1 r => ∃ ds, rdD (imm r) = some (.lst ds) ∧ k (pend (imm r) s1) ds) kx
def dItT (f : SE) : SI := fun s k kx => f s (fun s1 r => ∃ ds, imm r = .im (.tup ds) ∧ k s1 ds) kx
def upFrom (lo : Int) (n : Nat) : List D := (List.range n).map fun (i : Nat) => D.int (lo + (i : Int))
def dRng1 (f : SA) : SI := fun s k kx => f s (fun s1 as => ∃ j : Int, as = [.im (.int j)] ∧ j ≤ 1000000000 ∧ -1000000000 ≤ j ∧ k s1 (upFrom 0 j.toNat)) kx
def dRng2 (f : SA) : SI := fun s k kx => f s (fun s1 as => ∃ i j : Int, as = [.im (.int i), .im (.int j)] ∧ (i ≤ 1000000000 ∧ -1000000000 ≤ i ∧ j ≤ 1000000000 ∧ -1000000000 ≤ j) ∧ k s1 (upFrom i (j - i).toNat)) kx
def loopD (tg : TD) (body : SS) (E : DE) : List D → S → Prop
  | [], s => E.nx s
  | d :: ds, s => tg d s fun s1 => body { E with nx := loopD tg body E ds, ct := loopD tg body E ds, bk := E.nx } s1
def dFor (src : SI) (tg : TD) (body : SS) : SS := fun E s => src s (fun s1 ds => s1.b = false ∧ loopD tg body E ds s1) E.ex
section
variable {K : PySem.W.Frag} {W : WX} {R : Option Addr} {H0 Hb0 Hb H Hb' H' : Hp} {s : S} {σ : L2.St} {τ : LE} {r : Sl} {v : V}
theorem iter_list {a : Addr} {ds : List D} {x : Sl} (q : rdD x = some (.lst ds)) : IterOk K R (x, some (.ref a)) (Itl K a) ds := fun H0 Hb0 c L Hb H e hm => by
  obtain ⟨i, hi⟩ := List.mem_iff_getElem?.mp hm
  have w := e.it i _ hi
  obtain ⟨a', xs, e1, sq, l⟩ := SlOk.lst e w q
  cases e1
  have hl := l.length
  refine ⟨fun i hi => ⟨xs, xs[i], sq, List.getElem?_eq_getElem (by omega)⟩, ⟨xs, sq, by omega⟩, fun i x H' d hd ⟨e2, y⟩ => ?_⟩
  subst e2
  obtain ⟨d', h1, h2⟩ := l.get (y xs sq)
  rw [hd] at h1
  cases h1
  exact ⟨Hb, Grow.refl e, h2⟩
theorem iter_tup {a : Addr} {ds : List D} : IterOk K R (.im (.tup ds), some (.ref a)) (Itt K a) ds := fun H0 Hb0 c L Hb H e hm => by
  obtain ⟨i, hi⟩ := List.mem_iff_getElem?.mp hm
  have w := e.it i _ hi
  obtain ⟨a', xs, e1, sq, sb, l⟩ := SlOk.tup e w rfl
  cases e1
  have hl := l.length
  refine ⟨fun i hi => ⟨xs, xs[i], sq, List.getElem?_eq_getElem (by omega)⟩, ⟨xs, sq, by omega⟩, fun i x H' d hd ⟨e2, y⟩ => ?_⟩
  subst e2
  obtain ⟨d', h1, h2⟩ := l.get (y xs sq)
  rw [hd] at h1
  cases h1
  exact ⟨Hb, Grow.refl e, h2⟩
theorem iter_range {t : Sl × Option V} {lo : Int} {n : Nat} : IterOk K R t (Itr lo n) (upFrom lo n) := fun H0 Hb0 c L Hb H e hm => by
  have hl : (upFrom lo n).length = n := by simp [upFrom]
  refine ⟨fun i hi => by rw [hl] at hi; exact hi, by rw [hl]; exact Nat.le_refl n, fun i x H' d hd ⟨e2, y⟩ => ?_⟩
  subst e2 y
  have hi : i < n := by
    have := (List.getElem?_eq_some_iff.mp hd).1
    omega
  simp only [upFrom, List.getElem?_map, List.getElem?_range hi, Option.map_some, Option.some.injEq] at hd
  subst hd
  exact ⟨Hb, Grow.refl e, Dn.int _⟩
theorem good_it {te : TE} {f : SE} (h : GoodE K W te f) : GoodI K W (iList K te) (dIt f) := fun R H0 Hb0 s σ τ Hb H Rr k kx e hf hk hx => by
  refine h R H0 Hb0 s σ τ Hb H _ _ _ e hf (fun s1 r ⟨ds, h1, h2⟩ v Hb1 H1 e1 b1 q1 => ?_) hx
  obtain ⟨Hb1', e1', q1'⟩ := e1.imm q1
  obtain ⟨a, xs, rfl, sq, l⟩ := SlOk.lst e1'.e q1'.1 h1
  exact ⟨a, rfl, ⟨xs, sq⟩, hk _ _ h2 Hb1' H1 _ (imm r, some (.ref a)) (e1'.push q1') (iter_list h1)⟩
theorem good_itT {te : TE} {f : SE} (h : GoodE K W te f) : GoodI K W (iTup K te) (dItT f) := fun R H0 Hb0 s σ τ Hb H Rr k kx e hf hk hx => by
  refine h R H0 Hb0 s σ τ Hb H _ _ _ e hf (fun s1 r ⟨ds, h1, h2⟩ v Hb1 H1 e1 b1 q1 => ?_) hx
  obtain ⟨Hb1', e1', q1'⟩ := e1.imm q1
  rw [h1] at q1'
  obtain ⟨a, xs, rfl, sq, sb, l⟩ := SlOk.tup e1'.e q1'.1 rfl
  exact ⟨a, rfl, ⟨xs, sq⟩, hk _ _ h2 Hb1' H1 _ (.im (.tup ds), some (.ref a)) (e1'.push q1') iter_tup⟩
theorem Env.dummy (e : Env K R H0 Hb0 s σ τ Hb H) : Env K R H0 Hb0 s σ (τ ++ [(.im (.int 0), some (.int 0))]) Hb H := e.push (r := .im (.int 0)) (v := .int 0) (ResOk.im (Dn.int 0))
theorem good_rng1 {ta : TA} {f : SA} (h : GoodA K W ta f) : GoodI K W (iRng1 ta) (dRng1 f) := fun R H0 Hb0 s σ τ Hb H Rr k kx e hf hk hx => by
  refine h R H0 Hb0 s σ τ Hb H _ _ _ e hf (fun s1 as ⟨j, h1, h2, h3, h4⟩ vs Hb1 H1 e1 b1 q1 => ?_) hx
  subst h1
  obtain ⟨v, rfl, hx⟩ := args1 q1
  have := SlOk.int hx
  subst this
  exact ⟨j, rfl, by omega, by omega, hk _ _ h4 Hb1 H1 _ _ e1.dummy iter_range⟩
theorem good_rng2 {ta : TA} {f : SA} (h : GoodA K W ta f) : GoodI K W (iRng2 ta) (dRng2 f) := fun R H0 Hb0 s σ τ Hb H Rr k kx e hf hk hx => by
  refine h R H0 Hb0 s σ τ Hb H _ _ _ e hf (fun s1 as ⟨i, j, h1, h2, h4⟩ vs Hb1 H1 e1 b1 q1 => ?_) hx
  subst h1
  obtain ⟨v, w, rfl, hx, hy⟩ := args2 q1
  have := SlOk.int hx
  subst this
  have := SlOk.int hy
  subst this
  exact ⟨i, j, rfl, ⟨by omega, by omega, by omega, by omega⟩, hk _ _ h4 Hb1 H1 _ _ e1.dummy iter_range⟩
theorem drop_at {ds : List D} {i : Nat} (hi : i < ds.length) : ds.drop i = ds[i] :: ds.drop (i + 1) := List.drop_eq_getElem_cons hi
theorem good_for {wi : TI} {src : SI} {us : List Nat} {g : TG} {tg : TD} {tb : TS} {body : SS} (hi : GoodI K W wi src) (hg : GoodG K us g tg) (hb : GoodS K W tb body) : GoodS K W (tFor wi g tb) (dFor src tg body) := fun R H0 Hb0 s σ τ Hb H D E e hbf hf he => by
  refine hi R H0 Hb0 s σ τ Hb H _ _ _ e hf (fun s1 ds ⟨b1, l1⟩ Hb1 H1 J t e1 it => ?_) he.xk
  let Wv : Nat → Nat → L2.St → Hp → Prop := fun i m σ H => m = ds.length - i ∧ i ≤ ds.length ∧ ∃ s Hb, Env K R H0 Hb0 s σ (τ ++ [t]) Hb H ∧ s.b = false ∧ loopD tg body E (ds.drop i) s
  refine ⟨Wv, ⟨ds.length, rfl, Nat.zero_le _, s1, Hb1, e1, b1, l1⟩, ?_⟩
  rintro i m σ' H' ⟨rfl, hle, s2, Hb2, e2, b2, l2⟩
  obtain ⟨go, stop, yl⟩ := it H0 Hb0 s2.c _ Hb2 H' e2.e (by simp)
  by_cases hlt : i < ds.length
  · rw [drop_at hlt] at l2
    refine .inr ⟨go i hlt, fun σ' H' => Wv (i + 1) (ds.length - (i + 1)) σ' H', fun σ' H' q => ⟨_, by omega, q⟩, fun x H3 y => ?_⟩
    obtain ⟨Hb3, g3, dn⟩ := yl i x H3 ds[i] (List.getElem?_eq_getElem hlt) y
    refine hg R H0 Hb0 s2 σ' (τ ++ [t]) Hb3 H3 x ds[i] _ _ (e2.grow g3) dn l2 fun s4 σ4 q4 e4 kp => ?_
    refine hb R H0 Hb0 s4 σ4 (τ ++ [t]) Hb3 H3 _ _ e4 (kp.1.trans b2) q4 ⟨fun s' σ' Hb' H' q e' b' => ?_, fun s' σ' Hb' H' q e' b' => ?_, fun s' σ' Hb' H' q e' b' => ?_, he.rt, fun s' x q cls d σ' Hb' H' e' xo => he.ex s' x q cls d σ' Hb' H' e'.pop xo⟩
    · exact ⟨rfl, hlt, s', Hb', e', b', q⟩
    · exact he.nx s' σ' Hb' H' q e'.pop b'
    · exact ⟨rfl, hlt, s', Hb', e', b', q⟩
  · have hi : i = ds.length := by omega
    subst hi
    rw [List.drop_length] at l2
    exact .inl ⟨stop, he.nx s2 σ' Hb2 H' l2 e2.pop b2⟩
end
/-! ### comprehensions -/
def wipeΓ (Γ : List Sl) : List Nat → List Sl
  | [] => Γ
  | v :: vs => (wipeΓ Γ vs).set v .no
def loopC (Γw : List Sl) (b : Bool) (tg : TD) (tt : ST) (te : SE) (k : Nat → List D → Prop) : List D → List D → Nat → Prop
  | [], acc, c => k c acc
  | d :: ds, acc, c => tg d ⟨c, Γw, b⟩ fun s1 => tt s1 (fun s2 t => s2.Γ = s1.Γ ∧ if t = true then te s2 (fun s3 r => s3.Γ = s1.Γ ∧ ∃ y, imm r = .im y ∧ acc.length ≤ 1000000 ∧ loopC Γw b tg tt te k ds (acc ++ [y]) s3.c) (fun _ _ => False)
      else loopC Γw b tg tt te k ds acc s2.c) (fun _ _ => False)
def dLc (src : SI) (vs : List Nat) (tg : TD) (tt : ST) (te : SE) : SE := fun s k kx =>
  src s (fun s1 ds => loopC (wipeΓ s1.Γ vs) s1.b tg tt te (fun c acc => k ⟨c, wipeΓ s1.Γ vs, s.b⟩ (.own (.lst acc))) ds [] s1.c) kx
section
variable {K : PySem.W.Frag} {W : WX} {R : Option Addr} {H0 Hb0 Hb H Hb' H' : Hp} {s : S} {σ : L2.St} {τ : LE} {r : Sl} {v : V}
theorem wipeΓ_len (Γ : List Sl) : ∀ vs, (wipeΓ Γ vs).length = Γ.length
  | [] => rfl
  | v :: vs => by unfold wipeΓ; rw [List.length_set, wipeΓ_len Γ vs]
theorem wipeΓ_in {Γ : List Sl} {j : Nat} {t : Sl} : ∀ {vs : List Nat}, j ∈ vs → (wipeΓ Γ vs)[j]? = some t → t = .no
  | [], h, _ => by simp at h
  | v :: vs, h, q => by
    unfold wipeΓ at q
    by_cases e : v = j
    · subst e
      have hl := (List.getElem?_eq_some_iff.mp q).1
      rw [List.length_set] at hl
      rw [List.getElem?_set_self hl] at q
      exact (Option.some.inj q).symm
    · rw [List.getElem?_set_ne e] at q
      exact wipeΓ_in ((List.mem_cons.mp h).resolve_left fun z => e z.symm) q
theorem wipeΓ_out {Γ : List Sl} {j : Nat} : ∀ {vs : List Nat}, j ∉ vs → (wipeΓ Γ vs)[j]? = Γ[j]?
  | [], _ => rfl
  | v :: vs, h => by
    unfold wipeΓ
    rw [List.mem_cons, not_or] at h
    rw [List.getElem?_set_ne (fun z => h.1 z.symm), wipeΓ_out h.2]
theorem wipe_out {σ : L2.St} {j : Nat} : ∀ {vs : List Nat}, j ∉ vs → (wipe σ vs)[j]? = σ[j]?
  | [], _ => rfl
  | v :: vs, h => by
    unfold wipe
    rw [List.mem_cons, not_or] at h
    rw [List.getElem?_set_ne (fun z => h.1 z.symm), wipe_out h.2]
theorem wipe_in {σ : L2.St} {j : Nat} : ∀ {vs : List Nat}, j ∈ vs → (wipe σ vs)[j]? = if j < σ.length then some none else none
  | [], h => by simp at h
  | v :: vs, h => by
    unfold wipe
    by_cases e : v = j
    · subst e
      by_cases hl : v < σ.length
      · rw [if_pos hl, List.getElem?_set_self (by rw [wipe_length]; exact hl)]
      · rw [if_neg hl, List.getElem?_eq_none (by rw [List.length_set, wipe_length]; omega)]
    · rw [List.getElem?_set_ne e]
      exact wipe_in ((List.mem_cons.mp h).resolve_left fun z => e z.symm)
theorem wipe_eq {σ σ' : L2.St} {vs : List Nat} (hl : σ'.length = σ.length) (h : ∀ j, j ∉ vs → σ'[j]? = σ[j]?) : wipe σ' vs = wipe σ vs := by
  apply List.ext_getElem?
  intro j
  by_cases hj : j ∈ vs
  · rw [wipe_in hj, wipe_in hj, hl]
  · rw [wipe_out hj, wipe_out hj, h j hj]
/-- outside of vs the same, within forgotten -/
theorem Env.re {Γ' : List Sl} {σ' : L2.St} {vs : List Nat} (e : Env K R H0 Hb0 s σ τ Hb H) (h1 : Γ'.length = s.Γ.length) (h2 : σ'.length = σ.length) (hin : ∀ (j : Nat) t, j ∈ vs → Γ'[j]? = some t → t = .no)
    (hout : ∀ j, j ∉ vs → Γ'[j]? = s.Γ[j]? ∧ σ'[j]? = σ[j]?) : Env K R H0 Hb0 { s with Γ := Γ' } σ' τ Hb H := by
  refine ⟨by show Γ'.length = σ'.length; rw [h1, h2]; exact e.len, fun t ht d => ?_, e.nbt, e.e.weak fun i t q => ?_⟩
  · obtain ⟨j, hj⟩ := List.mem_iff_getElem?.mp ht
    by_cases hv : j ∈ vs
    · rw [hin j t hv hj]; simp
    · rw [(hout j hv).1] at hj
      exact e.nb t (List.mem_of_getElem? hj) d
  · have hz : (Γ'.zip σ').length = (s.Γ.zip σ).length := by rw [List.length_zip, List.length_zip, h1, h2]
    have q : (Γ'.zip σ' ++ τ)[i]? = some t := q
    by_cases hi : i < (s.Γ.zip σ).length
    · rw [List.getElem?_append_left (by omega)] at q
      rw [List.getElem?_append_left hi]
      rw [List.getElem?_zip_eq_some] at q
      by_cases hv : i ∈ vs
      · exact .inl (hin i _ hv q.1)
      · right
        rw [List.getElem?_zip_eq_some]
        rw [← (hout i hv).1, ← (hout i hv).2]
        exact q
    · right
      rw [List.getElem?_append_right (by omega)] at q
      rw [List.getElem?_append_right (by omega), ← hz]
      exact q
theorem Env.wiped (e : Env K R H0 Hb0 s σ τ Hb H) (vs : List Nat) : Env K R H0 Hb0 { s with Γ := wipeΓ s.Γ vs } (wipe σ vs) τ Hb H :=
  e.re (vs := vs) (wipeΓ_len _ _) (wipe_length _ _) (fun j t hj q => wipeΓ_in hj q) fun j hj => ⟨wipeΓ_out hj, wipe_out hj⟩
theorem Env.wrTop {a : Addr} {d d' : D} {o' : HO} (e : Env K R H0 Hb0 s σ (τ ++ [(.tmp d, some (.ref a))]) Hb H) (ho : DnO K Hb o' d') : Env K R H0 Hb0 s σ (τ ++ [(.tmp d', some (.ref a))]) Hb (upd H a o') := by
  refine ⟨e.len, e.nb, fun z t ht x => ?_, ?_⟩
  · rcases List.mem_append.mp ht with ht | ht
    · exact e.nbt z t (List.mem_append_left _ ht) x
    · rw [List.mem_singleton.mp ht]; simp
  · have q := e.e
    rw [← List.append_assoc] at q
    have w := q.write (i := (s.Γ.zip σ ++ τ).length) (a := a) (r := .tmp d) (r' := .tmp d') (d := d) (d' := d') (by simp) (.inr ⟨rfl, rfl⟩) ho
    rw [List.set_append_right _ _ (Nat.le_refl _), Nat.sub_self] at w
    rw [← List.append_assoc]
    exact w
theorem good_lc {wi : TI} {src : SI} {vs us : List Nat} {g : TG} {tg : TD} {tt : TT} {ft : ST} {te : TE} {fe : SE} (hi : GoodI K W wi src) (hg : GoodG K us g tg) (hu : ∀ j ∈ us, j ∈ vs) (ht : GoodT K (fun _ _ _ _ => False) tt ft) (he : GoodE K (fun _ _ _ _ => False) te fe) :
    GoodE K W (tLc wi g tt te vs) (dLc src vs tg ft fe) := fun R H0 Hb0 s σ τ Hb H Q k kx e hf hk hx => by
  refine hi R H0 Hb0 s σ τ Hb H _ _ _ e hf (fun s1 ds l1 Hb1 H1 J t e1 it D hD => ?_) hx
  -- the new list
  have e2 : Env K R H0 Hb0 s1 σ (τ ++ [t]) Hb1 (upd H1 D (.lst [])) := e1.grow (Grow.new e1.e hD)
  have rD := ResOk.lst (K := K) (vs := []) (ds := []) e1.e hD .nil
  have rD' : ResOk K R H0 (s1.Γ.zip σ ++ (τ ++ [t])) Hb1 (upd H1 D (.lst [])) (.tmp (.lst [])) (.ref D) :=
    ⟨rD.1, by simp, fun _ => rD.2.2.1 (.inl ⟨_, rfl⟩), fun _ a ha i => by cases ha; exact e1.e.nobor hD i, fun ⟨_, z⟩ => by simp at z⟩
  have e3 : Env K R H0 Hb0 s1 σ (τ ++ [t] ++ [(.tmp (.lst []), some (.ref D))]) Hb1 (upd H1 D (.lst [])) := e2.push rD'
  have e4 := e3.wiped vs
  let Γw := wipeΓ s1.Γ vs
  let kf : Nat → List DL.D → Prop := fun c acc => k ⟨c, Γw, s.b⟩ (.own (.lst acc))
  let Wv : Nat → Nat → Hp → Prop := fun i m H => m = ds.length - i ∧ i ≤ ds.length ∧ ∃ acc c Hb, Env K R H0 Hb0 ⟨c, Γw, s1.b⟩ (wipe σ vs) (τ ++ [t] ++ [(.tmp (.lst acc), some (.ref D))]) Hb H ∧ loopC Γw s1.b tg ft fe kf (ds.drop i) acc c
  refine ⟨Wv, ⟨ds.length, rfl, Nat.zero_le _, [], s1.c, Hb1, e4, l1⟩, ?_⟩
  rintro i m H2 ⟨rfl, hle, acc, c, Hb2, e5, l2⟩
  obtain ⟨go, stop, yl⟩ := it H0 Hb0 c _ Hb2 H2 e5.e (by simp)
  by_cases hlt : i < ds.length
  · rw [drop_at hlt] at l2
    refine .inr ⟨go i hlt, fun H' => Wv (i + 1) (ds.length - (i + 1)) H', fun H' q => ⟨_, by omega, q⟩, fun x H3 y => ?_⟩
    obtain ⟨Hb3, g3, dn⟩ := yl i x H3 ds[i] (List.getElem?_eq_getElem hlt) y
    refine hg R H0 Hb0 ⟨c, Γw, s1.b⟩ (wipe σ vs) _ Hb3 H3 x ds[i] _ _ (e5.grow g3) dn l2 fun s4 σ4 q4 e6 kp => ?_
    have hw : wipe σ4 vs = wipe σ vs := by
      rw [wipe_eq kp.2.2.2.1 fun j hj => (kp.2.2.2.2 j fun z => hj (hu j z)).2]
      exact wipe_eq (wipe_length _ _) fun j hj => wipe_out hj
    refine ⟨hw, ?_⟩
    -- back to the outer names
    have back : ∀ {c' : Nat} {b' : Bool} {Hb5 H5 : Hp} {τ' : LE}, Env K R H0 Hb0 ⟨c', s4.Γ, b'⟩ σ4 τ' Hb5 H5 → Env K R H0 Hb0 ⟨c', Γw, b'⟩ (wipe σ vs) τ' Hb5 H5 := fun {c' b' Hb5 H5 τ'} ee =>
      ee.re (vs := vs) (by show (wipeΓ s1.Γ vs).length = s4.Γ.length; rw [kp.2.2.1]) (by rw [kp.2.2.2.1]) (fun j t hj q => wipeΓ_in hj q) fun j hj => by
        have z := kp.2.2.2.2 j fun z => hj (hu j z)
        exact ⟨z.1.symm, z.2.symm⟩
    refine ht R H0 Hb0 s4 σ4 _ Hb3 H3 _ _ _ e6 q4 (fun s5 b ⟨hΓ, h5⟩ Hb5 H5 e7 b7 => ?_) (fun _ _ z => z.elim)
    cases b with
    | true =>
      refine he R H0 Hb0 s5 σ4 _ Hb5 H5 _ _ _ e7 h5 (fun s6 r ⟨hΓ6, y, hy, hz, h6⟩ w Hb6 H6 e8 b8 q8 => ?_) (fun _ _ z => z.elim)
      obtain ⟨Hb7, e9, q9⟩ := e8.imm q8
      rw [hy] at q9
      obtain ⟨a', o, ea, f2, f3, f4, f5, f6⟩ := e9.top
      cases ea
      cases f6 with
      | @lst xs _ l =>
        refine ⟨xs, f5, by rw [l.length]; exact lt_line_of hz, rfl, hlt, acc ++ [y], s6.c, Hb7, ?_, h6⟩
        have e10 := e9.wrTop (.lst (l.append (.one q9.1)))
        obtain ⟨c6, Γ6, b6⟩ := s6
        have hb : b6 = s1.b := (b8.trans b7).trans kp.1
        have hΓ6 : Γ6 = s4.Γ := hΓ6
        subst hΓ6 hb
        exact back e10
    | false =>
      refine ⟨rfl, hlt, acc, s5.c, Hb5, ?_, h5⟩
      obtain ⟨c5, Γ5, b5⟩ := s5
      have hb : b5 = s1.b := b7.trans kp.1
      have hΓ : Γ5 = s4.Γ := hΓ
      subst hΓ hb
      exact back e7
  · have hi : i = ds.length := by omega
    subst hi
    rw [List.drop_length] at l2
    refine .inl ⟨stop, ?_⟩
    have top := e5.e
    rw [← List.append_assoc] at top
    have rT := top.topR (by simp)
    have e6 : Env K R H0 Hb0 ⟨c, Γw, s1.b⟩ (wipe σ vs) τ Hb2 H2 := e5.pop.pop
    have e7 : Env K R H0 Hb0 ⟨c, Γw, s1.b⟩ σ τ Hb2 H2 := e6.re (vs := vs) rfl (wipe_length _ _).symm (fun j t hj q => wipeΓ_in hj q) fun j hj => ⟨rfl, (wipe_out hj).symm⟩
    have e8 : Env K R H0 Hb0 ⟨c, Γw, s.b⟩ σ τ Hb2 H2 := e7.unb fun z => e.nbt z
    refine hk _ _ l2 _ Hb2 H2 e8 rfl ⟨rT.1, by simp, fun _ a ha j ho => ?_, fun ⟨_, z⟩ => by simp at z, fun ⟨_, z⟩ => by simp at z⟩
    cases ha
    have hlow : ∀ x : Sl × Option V, (Γw.zip σ ++ τ)[j]? = some x → (∃ d, x.1 = .own d ∨ x.1 = .tmp d) → (Γw.zip (wipe σ vs) ++ (τ ++ [t]))[j]? = some x := fun x q hx' => by
      have hz : (Γw.zip (wipe σ vs)).length = (Γw.zip σ).length := by rw [List.length_zip, List.length_zip, wipe_length]
      by_cases hj : j < (Γw.zip σ).length
      · rw [List.getElem?_append_left hj, List.getElem?_zip_eq_some] at q
        rw [List.getElem?_append_left (by omega), List.getElem?_zip_eq_some]
        by_cases hv : j ∈ vs
        · have := wipeΓ_in hv q.1
          obtain ⟨d, hd | hd⟩ := hx' <;> (rw [this] at hd; cases hd)
        · exact ⟨q.1, by rw [wipe_out hv]; exact q.2⟩
      · rw [List.getElem?_append_right (by omega)] at q
        rw [List.getElem?_append_right (by omega), hz, List.getElem?_append_left (List.getElem?_eq_some_iff.mp q).1]
        exact q
    obtain ⟨d, q | q⟩ := ho
    · exact rT.2.2.1 (.inr ⟨_, rfl⟩) _ rfl j ⟨d, .inl (hlow _ q ⟨d, .inl rfl⟩)⟩
    · exact rT.2.2.1 (.inr ⟨_, rfl⟩) _ rfl j ⟨d, .inr (hlow _ q ⟨d, .inr rfl⟩)⟩
end
end DL

/-! ## DL7 -/
set_option Elab.async false
set_option linter.all false
set_option autoImplicit false
set_option maxRecDepth 100000
set_option maxHeartbeats 400000
namespace DL
open PySem L2
/-! ### a def keeps its promise -/
def startΓ (n m : Nat) (as : List Sl) : List Sl := as ++ List.replicate (m - n) .no
def endsF (k : Nat → Sl → Prop) (kx : Nat → XD → Prop) : DE := { nx := fun s => k s.c (.im .non), rt := k, bk := fun _ => False, ct := fun _ => False, ex := fun s x => kx s.c x }
/-- the wish of a def's exceptions -/
abbrev WF (E : XK) : WX := fun cls d _ H => E cls d H
section
variable {P : Program} {w : World} {K : PySem.W.Frag} {mg : Str → Option Value} {base : Heap}
theorem fn_D {x qual : Str} {st : Stmt} {f : Addr} {fd : FuncData} {N ps : List Str} {k n : Nat} {G : SF} {body : SS} (F : Fun K x qual st f fd) (S : FnScope N ps (defScope st)) (hn : ps.length = n)
    (hb : ∀ (cdv : Value) (A : Around) (outer : List PySem.Env) (s : Shared) (H : Hp) (E : XK), Room k (cxOf (L2.CX P w) P w K mg base N qual (defScope st) f cdv A outer s H E).A →
      Takes (cxOf (L2.CX P w) P w K mg base N qual (defScope st) f cdv A outer s H E) (WF E) → PassesOwn (model P w) (cxOf (L2.CX P w) P w K mg base N qual (defScope st) f cdv A outer s H E).A (cxOf (L2.CX P w) P w K mg base N qual (defScope st) f cdv A outer s H E).env (cxOf (L2.CX P w) P w K mg base N qual (defScope st) f cdv A outer s H E).xe →
      PSs (cxOf (L2.CX P w) P w K mg base N qual (defScope st) f cdv A outer s H E) (defBody st) (tS K (WF E) body))
    (hG : ∀ c as k kx, as.length = n → G c as k kx → body (endsF k kx) ⟨c, startΓ n N.length as, false⟩) : FnOk P w K mg base (L2.CX P w) (k + 1) f fd ps (spD K n G) := by
  refine F.okX S (fun vs H Q E h => h.1.trans hn.symm) (fun cdv A outer s H vs Q E hr h => ⟨_, hb cdv A outer s H E hr (takes_of rfl rfl rfl rfl) (passes_of rfl), ?_⟩)
  obtain ⟨hl, R, Hb, c, as, k', kx, e, ha, him, hg, hk, hx⟩ := h
  have hal : as.length = n := (args_len ha).symm.trans hl
  have hN : n ≤ N.length := by
    have := congrArg List.length S.pre
    rw [List.length_take, hn] at this
    omega
  refine ⟨R, H, Hb, ⟨c, startΓ n N.length as, false⟩, [], Hb, endsF k' kx, ⟨?_, ?_, fun _ t ht => by simp at ht, ?_⟩, rfl, hG c as k' kx hal hg, ⟨fun s' σ' Hb' H' q e' b' => ?_, fun _ _ _ _ q => q.elim, fun _ _ _ _ q => q.elim, fun c' r v Hb' H' q ret => hk c' r q v Hb' H' ret, fun s' x q cls d σ' Hb' H' e' xo => hx s'.c x q cls d Hb' H' (e'.e.weak fun i t q => by simp at q) xo⟩⟩
  · show (startΓ n N.length as).length = (L2.start N vs).length
    unfold startΓ L2.start
    rw [List.length_append, List.length_append, List.length_map, List.length_replicate, List.length_replicate, hl, hal]
  · intro t ht d
    rcases List.mem_append.mp ht with ht | ht
    · have := List.all_eq_true.mp him t ht
      cases t <;> simp_all [argIm]
    · rw [List.eq_of_mem_replicate ht]; simp
  · show EnvL K R H Hb c ((startΓ n N.length as).zip (L2.start N vs) ++ []) Hb H
    rw [List.append_nil]
    have hz : (startΓ n N.length as).zip (L2.start N vs) = (as.zip (vs.map some)) ++ List.replicate (N.length - n) (Sl.no, none) := by
      unfold startΓ L2.start
      rw [List.zip_append (by rw [List.length_map, hl, hal]), hl]
      congr 1
      rw [List.zip_replicate, Nat.min_self]
    rw [hz]
    have base : EnvL K R H Hb c (as.zip (vs.map some)) Hb H := by
      have go : ∀ (as : List Sl) (vs : List V), ArgsOk K R H Hb H as vs → as.all argIm = true → ∀ (i : Nat) t, (as.zip (vs.map some))[i]? = some t → SlOk K R H Hb H t.1 t.2 ∧ argIm t.1 = true := by
        intro as
        induction as with
        | nil => intro vs _ _ i t q; simp at q
        | cons a as ih =>
          intro vs h q i t qi
          obtain ⟨v, r, rfl, h1, h2, h3, h4⟩ := h
          rw [List.all_cons, Bool.and_eq_true] at q
          cases i with
          | zero =>
            simp only [List.map_cons, List.zip_cons_cons, List.getElem?_cons_zero, Option.some.injEq] at qi
            subst qi
            exact ⟨h1, q.1⟩
          | succ i => exact ih r h4 q.2 i t (by simpa using qi)
      have nown : ∀ i a, ¬ OwnAt (as.zip (vs.map some)) i a := fun i a ⟨d, q⟩ => by
        rcases q with q | q
        · have := (go as vs ha him i _ q).2
          simp [argIm] at this
        · have := (go as vs ha him i _ q).2
          simp [argIm] at this
      exact ⟨e.keep, e.bas, e.fr, e.sub, e.rng, fun i t q => (go as vs ha him i t q).1, fun i j a h => absurd h (nown i a), fun i j a ⟨d, q⟩ => by
        have := (go as vs ha him i _ q).2
        simp [argIm] at this⟩
    refine base.weak fun i t q => ?_
    by_cases hi : i < (as.zip (vs.map some)).length
    · rw [List.getElem?_append_left hi] at q
      exact .inr q
    · rw [List.getElem?_append_right (by omega)] at q
      left
      have := List.mem_of_getElem? q
      rw [List.eq_of_mem_replicate this]
  · exact hk s'.c _ q .non Hb' H' (e'.ret (r := .im .non) (v := .non) (ResOk.im Dn.non) trivial)
/-- a def known by its promise -/
structure FnD (P : Program) (w : World) (K : PySem.W.Frag) (mg : Str → Option Value) (base : Heap) (k : Nat) (x : Str) (n : Nat) (G : SF) : Prop where
  ex : ∃ f fd ps, FnOk P w K mg base (L2.CX P w) k f fd ps (spD K n G) ∧ mg x = some (.ref f) ∧ PySem.W.keepIn K (.ref f) = true ∧ Binds K fd ps []
theorem FnD.mono {k j n : Nat} {x : Str} {G : SF} (h : FnD P w K mg base k x n G) (q : k ≤ j) : FnD P w K mg base j x n G := by
  obtain ⟨f, fd, ps, h1, h2⟩ := h.ex
  exact ⟨f, fd, ps, h1.mono q, h2⟩
theorem FnD.imp {k n : Nat} {x : Str} {G G' : SF} (h : FnD P w K mg base k x n G) (q : ∀ c as k kx, G' c as k kx → G c as k kx) : FnD P w K mg base k x n G' := by
  obtain ⟨f, fd, ps, h1, h2⟩ := h.ex
  exact ⟨f, fd, ps, h1.imp fun vs H Q E ⟨hl, R, Hb, c, as, k, kx, e, ha, hi, hg, r⟩ => ⟨hl, R, Hb, c, as, k, kx, e, ha, hi, q _ _ _ _ hg, r⟩, h2⟩
end
/-! ### rules -/
section
variable {X : Cx} {W : WX} {x : Str} {pos p : Pos} {a b c e : Expr} {es : List Expr} {f g h : SE} {fs : SA} {j : Nat}
theorem de_var (i : Nat) (hN : X.N[i]? = some x := by rfl) (hv : Vis X.env.scope x := by first | exact Or.inl rfl | exact Or.inr (Or.inl rfl) | exact Or.inr (Or.inr rfl)) (hd : (x == ("__debug__" : Str)) = false := by decide) (hcd : (x == ("__classdict__" : Str)) = false := by decide) :
    PE X (.Name x pos) (tD X.K W (dVar i)) := deG (pe_var hN hv hd hcd) (good_var i)
theorem de_frz (i : Nat) (hN : X.N[i]? = some x := by rfl) (hv : Vis X.env.scope x := by first | exact Or.inl rfl | exact Or.inr (Or.inl rfl) | exact Or.inr (Or.inr rfl)) (hd : (x == ("__debug__" : Str)) = false := by decide) (hcd : (x == ("__classdict__" : Str)) = false := by decide) :
    PE X (.Name x pos) (tD X.K W (dFrz i)) := deG (pe_var hN hv hd hcd) (good_frz i)
theorem de_mov (i : Nat) (hN : X.N[i]? = some x := by rfl) (hv : Vis X.env.scope x := by first | exact Or.inl rfl | exact Or.inr (Or.inl rfl) | exact Or.inr (Or.inr rfl)) (hd : (x == ("__debug__" : Str)) = false := by decide) (hcd : (x == ("__classdict__" : Str)) = false := by decide) :
    PE X (.Name x pos) (tD X.K W (dMov i)) := deG (pe_var hN hv hd hcd) (good_mov i)
theorem de_int {i : Int} : PE X (.Constant (.int i) j pos) (tD X.K W (dC (.int i))) := deG pe_int (good_c fun _ => Dn.int i)
theorem de_bl {i : Bool} : PE X (.Constant (.bool i) j pos) (tD X.K W (dC (.bl i))) := deG pe_bl (good_c fun _ => Dn.bl i)
theorem de_non : PE X (.Constant .none j pos) (tD X.K W (dC .non)) := deG pe_non (good_c fun _ => Dn.non)
theorem de_str {i : Str} : PE X (.Constant (.str i) j pos) (tD X.K W (dC (.str i))) := deG pe_str (good_c fun _ => Dn.str i)
theorem de_ty {n : String} (hm : X.mg x = none) (hv : bootBuiltins x = some (.type n)) (hg : Gl X x := by rfl) (hn : x ≠ "__name__" := by decide) (hd : (x == ("__debug__" : Str)) = false := by decide) : PE X (.Name x pos) (tD X.K W (dC (.ty n))) :=
  deG (pe_bltn hg hm hv (v := .ty n) rfl hn hd) (good_c fun _ => Dn.ty n)
/-- a module's constant -/
theorem de_glob {v : V} {d : D} (h : ∃ u, X.mg x = some u ∧ RelV v u) (hd : ∀ Hb, Dn X.K Hb v d) (hg : Gl X x := by rfl) (hdb : (x == ("__debug__" : Str)) = false := by decide) : PE X (.Name x pos) (tD X.K W (dC d)) := by
  obtain ⟨u, h1, h2⟩ := h
  exact deG (pe_glob hg h1 h2 hdb) (good_c hd)
theorem de_op {o : Operator} {r : R2} {op : Sl → Sl → (Sl → Prop) → Prop} (ho : OpR X (binaryOp o) r) (hr : OpOk X.K r op) (ha : PE X a (tD X.K W f)) (hb : PE X b (tD X.K W g)) : PE X (.BinOp a o b pos) (tD X.K W (dBin op f g)) := deG (pe_op ho ha hb) (good_bin hr goodD goodD)
theorem de_cmp {o : CmpOp} {r : R2} {op : Sl → Sl → (Sl → Prop) → Prop} (ho : OpR X (compareOp o) r) (hr : OpOk X.K r op) (ha : PE X a (tD X.K W f)) (hb : PE X b (tD X.K W g)) (hm : behindInMarks o b = false := by first | exact nomark _ | with_unfolding_all rfl) : PE X (.Compare a [o] [b] pos) (tD X.K W (dBin op f g)) := deG (pe_cmpR ho ha hb hm) (good_bin hr goodD goodD)
theorem dt_cmp {o : CmpOp} {r : R2} {op : Sl → Sl → (Sl → Prop) → Prop} (ho : OpR X (compareOp o) r) (hr : OpOk X.K r op) (ha : PE X a (tD X.K W f)) (hb : PE X b (tD X.K W g)) (hm : behindInMarks o b = false := by first | exact nomark _ | with_unfolding_all rfl) : PT X (.Compare a [o] [b] pos) (tT X.K W (dTest (dBin op f g))) := dtG (pt_cmpR ho ha hb hm) (good_test (good_bin hr goodD goodD))
theorem de_ix {r : R2} {op : Sl → Sl → (Sl → Prop) → Prop} (ho : IxR X r) (hr : OpOk X.K r op) (ha : PE X a (tD X.K W f)) (hb : PE X b (tD X.K W g)) (hs : PlainIx b := by exact fun _ _ => rfl) : PE X (.Subscript a b pos) (tD X.K W (dBin op f g)) := deG (pe_ix ho ha hb hs) (good_bin hr goodD goodD)
theorem de_slc {r : V → Option Int → Option Int → Hp → VK → Prop} {op : Sl → Option Int → Option Int → (Sl → Prop) → Prop} {lo hi : Option Expr} {fl fh : SO} {p2 : Pos} (ho : SlR X r) (hr : SlcOk X.K r op) (ha : PE X a (tD X.K W f)) (hl : PO X lo (tO X.K W fl)) (hh : PO X hi (tO X.K W fh)) :
    PE X (.Subscript a (.Slice lo hi none p2) pos) (tD X.K W (dSl op f fl fh)) := deG (pe_slice ho ha hl hh) (good_sl hr goodD goodO goodO)
theorem do_none : PO X none (tO X.K W dNoP) := doG po_none good_noP
theorem do_some (ha : PE X a (tD X.K W f)) : PO X (some a) (tO X.K W (dPart f)) := doG (po_some ha) (good_part goodD)
theorem da_nil : PA X [] (tA X.K W dNil) := daG pa_nil good_nil
theorem da_cons (ha : PE X e (tD X.K W f)) (hr : PA X es (tA X.K W fs)) (hs : starEach (e :: es) X.env = (false, eval e X.env) :: starEach es X.env := by rfl) : PA X (e :: es) (tA X.K W (dCons f fs)) := daG (pa_cons ha hr hs) (good_cons goodD goodA)
theorem de_tup {q : Nat} (h : PE X (.Tuple es q pos) (tTup (tA X.K W fs))) : PE X (.Tuple es q pos) (tD X.K W (dTup fs)) := deG h (good_tup goodA)
theorem de_lst (ha : PE X (.List es pos) (tLst (tA X.K W fs))) : PE X (.List es pos) (tD X.K W (dLst fs)) := deG ha (good_lst goodA)
theorem de_cb {id : String} {r : List V → Hp → VK → Prop} {op : List Sl → (Sl → Prop) → Prop} (hc : CallR X (.builtin id) r) (hr : CbOk X.K r op) (hm : X.mg x = none) (hv : bootBuiltins x = some (.builtin id)) (ha : PA X (e :: es) (tA X.K W fs)) (hg : Gl X x := by rfl) (hn : x ≠ "__name__" := by decide) (hdb : (x == ("__debug__" : Str)) = false := by decide)
    (he : starEach (e :: es) X.env = (false, eval e X.env) :: starEach es X.env := by rfl) (hpl : (backTo pos (starEach es X.env)).any (·.1) = false := by rfl) : PE X (.Call (.Name x p) (e :: es) [] pos) (tD X.K W (dCB op fs)) := deG (pe_callB hc hg hm hv ha hn hdb he hpl) (good_cb hr goodA)
theorem de_cty {T : String} {r : List V → Hp → VK → Prop} {op : List Sl → (Sl → Prop) → Prop} (hc : CallR X (.type T) r) (hr : CbOk X.K r op) (hm : X.mg x = none) (hv : bootBuiltins x = some (.type T)) (ha : PA X (e :: es) (tA X.K W fs)) (hg : Gl X x := by rfl) (hn : x ≠ "__name__" := by decide) (hdb : (x == ("__debug__" : Str)) = false := by decide)
    (he : starEach (e :: es) X.env = (false, eval e X.env) :: starEach es X.env := by rfl) (hpl : (backTo pos (starEach es X.env)).any (·.1) = false := by rfl) : PE X (.Call (.Name x p) (e :: es) [] pos) (tD X.K W (dCB op fs)) := deG (pe_callTy hc hg hm hv ha hn hdb he hpl) (good_cb hr goodA)
theorem de_call {k l n : Nat} {G : SF} (c : FnD X.prog X.w X.K X.mg X.base k x n G) (hr : Room l X.A) (tk : Takes X W) (hk : k ≤ l) (ha : PA X (e :: es) (tA X.K W fs)) (hg : Gl X x := by rfl) (hdb : (x == ("__debug__" : Str)) = false := by decide)
    (he : starEach (e :: es) X.env = (false, eval e X.env) :: starEach es X.env := by rfl) (hpl : (backTo pos (starEach es X.env)).any (·.1) = false := by rfl) : PE X (.Call (.Name x p) (e :: es) [] pos) (tD X.K W (dCall n G fs)) := by
  obtain ⟨f, fd, ps, h1, h2, h3, h4⟩ := c.ex
  exact deG (pe_callS h1 (hr.mono hk) hg h2 h3 h4 (fun σ => passAt tk σ) ha hdb he hpl) (good_callS goodA)
theorem de_andV {rest : List Expr} (ha : PE X a (tD X.K W f)) (hb : PE X (.BoolOp .And (b :: rest) pos) (tD X.K W g)) : PE X (.BoolOp .And (a :: b :: rest) pos) (tD X.K W (dAndV f g)) := deG (pe_and ha hb) (good_andV goodD goodD)
theorem de_orV {rest : List Expr} (ha : PE X a (tD X.K W f)) (hb : PE X (.BoolOp .Or (b :: rest) pos) (tD X.K W g)) : PE X (.BoolOp .Or (a :: b :: rest) pos) (tD X.K W (dOrV f g)) := deG (pe_or ha hb) (good_orV goodD goodD)
theorem de_one {o : BoolOp} (ha : PE X a (tD X.K W f)) : PE X (.BoolOp o [a] pos) (tD X.K W f) := pe_one ha
theorem de_notV (ha : PE X a (tD X.K W f)) : PE X (.UnaryOp .Not a pos) (tD X.K W (dNotV f)) := deG (pe_not ha) (good_notV goodD)
variable {t u : ST}
theorem de_if (hc : PT X c (tT X.K W t)) (ha : PE X a (tD X.K W f)) (hb : PE X b (tD X.K W g)) : PE X (.IfExp c a b pos) (tD X.K W (dIf t f g)) := deG (pe_ifExp hc ha hb) (good_if goodT goodD goodD)
theorem dt_val (h : PE X e (tD X.K W f)) (he : ∀ whole, isTrue e X.env whole = (do let v ← whole; standAt e.pos; holding [v] (truthy v)) := by intro _; rfl) : PT X e (tT X.K W (dTest f)) := dtG (pt_val h he) (good_B goodD)
theorem dt_tru (h : PE X e (tD X.K W f)) (he : ∀ whole, isTrue e X.env whole = (do let v ← whole; standAt e.pos; holding [v] (truthy v)) := by intro _; rfl) : PT X e (tT X.K W (dTru f)) := dtG (pt_truth h he) (good_tru goodD)
theorem dt_not (h : PT X a (tT X.K W t)) : PT X (.UnaryOp .Not a pos) (tT X.K W (dNot t)) := dtG (pt_not h) (good_not goodT)
theorem dw_and1 (h : PT X a (tT X.K W t)) : PW X (.BoolOp .And [a] pos) (tT X.K W t) := pw_and1 h
theorem dw_or1 (h : PT X a (tT X.K W t)) : PW X (.BoolOp .Or [a] pos) (tT X.K W t) := pw_or1 h
theorem dw_and {rest : List Expr} (ha : PT X a (tT X.K W t)) (hb : PW X (.BoolOp .And (b :: rest) pos) (tT X.K W u)) : PW X (.BoolOp .And (a :: b :: rest) pos) (tT X.K W (dAnd t u)) := dwG (pw_and ha hb) (good_and goodT goodT)
theorem dw_or {rest : List Expr} (ha : PT X a (tT X.K W t)) (hb : PW X (.BoolOp .Or (b :: rest) pos) (tT X.K W u)) : PW X (.BoolOp .Or (a :: b :: rest) pos) (tT X.K W (dOr t u)) := dwG (pw_or ha hb) (good_or goodT goodT)
variable {st : Stmt} {sts : List Stmt} {F G : SS}
theorem ds_nil : PSs X [] (tS X.K W dNext) := dssG pss_nil good_next
theorem ds_cons (h1 : PS X st (tS X.K W F)) (h2 : PSs X sts (tS X.K W G)) : PSs X (st :: sts) (tS X.K W (dSeq F G)) := dssG (pss_cons h1 h2) (good_seq goodS goodS)
theorem ds_one (h1 : PS X st (tS X.K W F)) : PSs X [st] (tS X.K W F) := pss_one h1
theorem ds_if {c : Expr} {s1 s2 : List Stmt} (hc : PT X c (tT X.K W t)) (ha : PSs X s1 (tS X.K W F)) (hb : PSs X s2 (tS X.K W G)) : PS X (.If c s1 s2 pos) (tS X.K W (dIfS t F G)) := dsG (ps_if hc ha hb) (good_ifS goodT goodS goodS)
theorem ds_ret (h : PE X e (tD X.K W f)) : PS X (.Return (some e) pos) (tS X.K W (dRet f)) := dsG (ps_ret h) (good_ret goodD)
theorem ds_retN : PS X (.Return none pos) (tS X.K W dRetN) := dsG ps_retN good_retN
theorem ds_expr (h : PE X e (tD X.K W f)) (hs : swapsWith e none pos.line X.env = pure false := by rfl) : PS X (.Expr e pos) (tS X.K W (dDrop f)) := dsG (ps_expr h hs) (good_drop goodD)
theorem ds_pass : PS X (.Pass pos) (tS X.K W dNext) := dsG ps_pass good_next
theorem ds_brk : PS X (.Break pos) (tS X.K W dBrk) := dsG ps_break good_brk
theorem ds_cnt : PS X (.Continue pos) (tS X.K W dCnt) := dsG ps_continue good_cnt
theorem ds_set {i : Nat} {pos' : Pos} (hN : X.N.Nodup) (he : PE X e (tD X.K W f)) (hi : X.N[i]? = some x := by rfl) (hx : Loc X.env.scope x := by first | exact .inl rfl | exact .inr rfl) (hs : swapsWith e (some (.Name x pos')) pos.line X.env = pure false := by rfl) (hf : X.fn x = true ∨ X.env.scope.names.lookup x = some .local := by first | exact .inl rfl | exact .inr rfl) :
    PS X (.Assign [.Name x pos'] e pos) (tS X.K W (dSet i f)) := dsG (ps_set hN hi hx he hs hf) (good_set goodD)
theorem ds_aug {i : Nat} {pos' : Pos} {o : Operator} {op : Int → Int → Int} (ho : PIp X o (ipI op)) (hN : X.N.Nodup) (he : PE X e (tD X.K W f)) (hi : X.N[i]? = some x := by rfl) (hx : Loc X.env.scope x := by first | exact .inl rfl | exact .inr rfl) (hf : X.fn x = true ∨ X.env.scope.names.lookup x = some .local := by first | exact .inl rfl | exact .inr rfl) :
    PS X (.AugAssign (.Name x pos') o e pos) (tS X.K W (dAug i op f)) := dsG (ps_aug hN hi hx he ho hf) (good_aug goodD)
theorem ds_app {i : Nat} {name : Str} {p1 p2 p3 : Pos} (hnm : name = "append") (he : PE X e (tD X.K W f)) (h : PS X (.Expr (.Call (.Attribute (.Name x p1) name p2) [e] [] p3) pos) (tDrop (tBM X.K "list" rAppend (tVar i) (tCons (tD X.K W f) tNil)))) :
    PS X (.Expr (.Call (.Attribute (.Name x p1) name p2) [e] [] p3) pos) (tS X.K W (dApp i f)) := dsG h (good_app goodD)
theorem ds_for {tg iter : Expr} {wi : SI} {us : List Nat} {gt : TG} {gd : TD} (po : PassesOwn (model X.prog X.w) X.A X.env X.xe) (hi : PI X tg iter (tI X.K W wi)) (hg : PG X tg gt) (gg : GoodG X.K us gt gd) (hb : PSs X sts (tS X.K W F)) (hc : X.calm = true := by rfl)
    (hs : ∀ x, foldedSetIterable iter X.env x = pure x := by intro _; rfl) : PS X (.For tg iter sts [] pos) (tS X.K W (dFor wi gd F)) := dsG (ps_for po hc hi hg hb hs) (good_for goodI gg goodS)
theorem ds_asgT {tg : Expr} {us : List Nat} {gt : TG} {gd : TD} (hg : PG X tg gt) (gg : GoodG X.K us gt gd) (he : PE X e (tD X.K W f)) (hs : swapsWithSole [tg] e pos.line X.env = pure false := by rfl) (hw : swappedStores [tg] e X.env = pure none := by rfl) (h1 : (assignEach [tg] X.env).map (·.2) = [assign tg X.env] := by rfl) : PS X (.Assign [tg] e pos) (tS X.K W (dAsgT gd f)) := dsG (ps_asg he hg hs hw h1) (good_asgT gg goodD)
theorem good_raise {K : PySem.W.Frag} {C : Addr} : GoodS K W (fun _ σ H => W (.ref C) none σ H) (dRaise C) := fun R H0 Hb0 s σ τ Hb H D E e hb hf he => he.ex s _ hf _ _ σ Hb H e ⟨rfl, rfl⟩
theorem di_list {tg : Expr} (h : PE X e (tD X.K W f)) : PI X tg e (tI X.K W (dIt f)) := diG (pi_list h) (good_it goodD)
theorem di_tup {tg : Expr} (h : PE X e (tD X.K W f)) : PI X tg e (tI X.K W (dItT f)) := diG (pi_tup h) (good_itT goodD)
theorem di_rng1 {tg : Expr} (hm : X.mg "range" = none) (ha : PA X [a] (tA X.K W fs)) (hg : Gl X "range" := by rfl) (hs : starEach [a] X.env = [(false, eval a X.env)] := by rfl) : PI X tg (.Call (.Name "range" p) [a] [] pos) (tI X.K W (dRng1 fs)) := diG (pi_range1 hg hm ha hs) (good_rng1 goodA)
theorem di_rng2 {tg : Expr} (hm : X.mg "range" = none) (ha : PA X [a, b] (tA X.K W fs)) (hg : Gl X "range" := by rfl) (hs : starEach [a, b] X.env = [(false, eval a X.env), (false, eval b X.env)] := by rfl) (hs2 : starEach [b] X.env = [(false, eval b X.env)] := by rfl) : PI X tg (.Call (.Name "range" p) [a, b] [] pos) (tI X.K W (dRng2 fs)) := diG (pi_range2 hg hm ha hs hs2) (good_rng2 goodA)
end
end DL

/-! ## DL8 -/
set_option Elab.async false
set_option linter.all false
set_option autoImplicit false
set_option maxRecDepth 100000
set_option maxHeartbeats 400000
namespace DL
open PySem L2
/-! ### comprehensions, as rules -/
section
variable {X : Cx} {W : WX}
abbrev W0 : WX := fun _ _ _ _ => False
theorem de_lc {elt tg iter : Expr} {ifs : List Expr} {scope : Scope} {pos : Pos} (own : List (Str × Nat)) {wi : SI} {us : List Nat} {gt : TG} {gd : TD} {t : ST} {f : SE} (hc : X.calm = true) (hN : X.N.Nodup) (hi : PI X tg iter (tI X.K W wi)) (ok : BlkOk X.N X.env.scope scope own)
    (hg : ∀ (s : Shared) (H : Hp) (C : Addr) (cl : List (Str × Addr)) (fp : List Addr), PG (X.blk s H scope (compEnvC scope cl C X.env) fp) tg gt) (gg : GoodG X.K us gt gd) (hu : ∀ j ∈ us, j ∈ own.map (·.2))
    (ht : ∀ (s : Shared) (H : Hp) (C : Addr) (cl : List (Str × Addr)) (fp : List Addr), PTs (X.blk s H scope (compEnvC scope cl C X.env) fp) ifs (tT X.K W0 t))
    (he : ∀ (s : Shared) (H : Hp) (C : Addr) (cl : List (Str × Addr)) (fp : List Addr), PE (X.blk s H scope (compEnvC scope cl C X.env) fp) elt (tD X.K W0 f)) (hs : ∀ x, foldedSetIterable iter X.env x = pure x := by intro _; rfl) :
    PE X (.ListComp elt [⟨tg, iter, ifs, 0⟩] scope pos) (tD X.K W (dLc wi (own.map (·.2)) gd t f)) :=
  deG (pe_lc hc hN hi ok hg ht he hs) (good_lc goodI gg hu goodT goodD)
theorem ds_setLc {i : Nat} {y : Str} {py : Pos} {elt tg iter : Expr} {ifs : List Expr} {scope : Scope} {pos spos : Pos} (own : List (Str × Nat)) {wi : SI} {us : List Nat} {gt : TG} {gd : TD} {t : ST} {f : SE} (hc : X.calm = true) (hN : X.N.Nodup) (hy : X.N[i]? = some y) (hyl : X.env.scope.names.lookup y = some .local)
    (hsw : swapsWith (.ListComp elt [⟨tg, iter, ifs, 0⟩] scope pos) (some (.Name y py)) spos.line X.env = pure true) (hi : PI X tg iter (tI X.K W wi)) (ok : BlkOk X.N X.env.scope scope own)
    (hg : ∀ (s : Shared) (H : Hp) (C : Addr) (cl : List (Str × Addr)) (fp : List Addr), PG (X.blk s H scope (compEnvC scope cl C X.env) fp) tg gt) (gg : GoodG X.K us gt gd) (hu : ∀ j ∈ us, j ∈ own.map (·.2))
    (ht : ∀ (s : Shared) (H : Hp) (C : Addr) (cl : List (Str × Addr)) (fp : List Addr), PTs (X.blk s H scope (compEnvC scope cl C X.env) fp) ifs (tT X.K W0 t))
    (he : ∀ (s : Shared) (H : Hp) (C : Addr) (cl : List (Str × Addr)) (fp : List Addr), PE (X.blk s H scope (compEnvC scope cl C X.env) fp) elt (tD X.K W0 f)) (hs : ∀ x, foldedSetIterable iter X.env x = pure x := by intro _; rfl) :
    PS X (.Assign [.Name y py] (.ListComp elt [⟨tg, iter, ifs, 0⟩] scope pos) spos) (tS X.K W (dSet i (dLc wi (own.map (·.2)) gd t f))) :=
  dsG (ps_setLc hc hN hy hyl hsw hi ok hg ht he hs) (good_set (good_lc goodI gg hu goodT goodD))
theorem dts_nil : PTs X [] (tT X.K W dTrue) := ⟨fun pins s σ H Q I ⟨R, H0, Hb0, s', τ, Hb, k, kx, e, hf, hk, hx⟩ => (pts_nil (X := X)).run pins s σ H Q I (good_true R H0 Hb0 s' σ τ Hb H Q k kx e hf hk hx)⟩
theorem dts_one {c : Expr} {t : ST} (h : PT X c (tT X.K W t)) : PTs X [c] (tT X.K W t) := pts_one h
end
/-! ### a < b < c -/
def dChain (op op' : Sl → Sl → (Sl → Prop) → Prop) (f g h : SE) : SE := fun s k kx => f s (fun s1 a => g (pend (imm a) s1) (fun s2 b => op (imm a) (imm b) (fun r => ∃ t, r = .im (.bl t) ∧
  if t = true then h (pend (imm b) { s2 with b := s1.b }) (fun s3 c => op' (imm b) (imm c) (k { s3 with b := s1.b })) kx else k { s2 with b := s1.b } (.im (.bl false)))) kx) kx
section
variable {K : PySem.W.Frag} {W : WX} {ta tb tc : TE} {f g h : SE}
theorem good_chain {r r' : R2} {op op' : Sl → Sl → (Sl → Prop) → Prop} (ho : OpOk K r op) (ho' : OpOk K r' op') (ha : GoodE K W ta f) (hb : GoodE K W tb g) (hc : GoodE K W tc h) : GoodE K W (tChain r r' ta tb tc) (dChain op op' f g h) := fun R H0 Hb0 s σ τ Hb H Q k kx e hf hk hx => by
  refine ha R H0 Hb0 s σ τ Hb H _ _ _ e hf (fun s1 a hg v Hb1 H1 e1 b1 q1 => ?_) hx
  obtain ⟨Hb1', e1', q1'⟩ := e1.imm q1
  refine hb R H0 Hb0 _ σ _ Hb1' H1 _ _ _ (e1'.push q1') hg (fun s2 b hop w Hb2 H2 e2 b2 q2 => ?_) hx.pop
  obtain ⟨Hb2', e2', q2'⟩ := e2.imm q2
  have e3 : Env K R H0 Hb0 { s2 with b := s1.b } σ τ Hb2' H2 := e2'.pop.unb fun z => e1.nbt z
  have hbo : ∀ i x, (s2.Γ.zip σ ++ τ)[i]? = some x → (s2.Γ.zip σ ++ (τ ++ [(imm a, some v)]))[i]? = some x := fun i x q => by
    rw [← List.append_assoc, List.getElem?_append_left (List.getElem?_eq_some_iff.mp q).1]; exact q
  have q2p : ResOk K R H0 (s2.Γ.zip σ ++ τ) Hb2' H2 (imm b) w := by
    refine ⟨q2'.1, q2'.2.1, fun z x y i ⟨d, o⟩ => ?_, fun z x y i ⟨d, o⟩ => ?_, fun z x y i ⟨d, o⟩ => ?_⟩
    · rcases o with o | o
      · exact q2'.2.2.1 z x y i ⟨d, .inl (hbo _ _ o)⟩
      · exact q2'.2.2.1 z x y i ⟨d, .inr (hbo _ _ o)⟩
    · exact q2'.2.2.2.1 z x y i ⟨d, hbo _ _ o⟩
    · exact q2'.2.2.2.2 z x y i ⟨d, hbo _ _ o⟩
  refine ho R H0 Hb0 s2.c _ Hb2' H2 _ _ v w _ _ e3.e e2'.top q2'.1 hop fun r hr u Hb3 H3 g q3 => ?_
  obtain ⟨t, rfl, ht⟩ := hr
  have e4 : Env K R H0 Hb0 { s2 with b := s1.b } σ τ Hb3 H3 := e3.grow g
  refine ⟨t, SlOk.bl q3.1, ?_⟩
  cases t with
  | false => exact hk _ _ ht _ Hb3 H3 e4 b1 (ResOk.im (Dn.bl _))
  | true =>
    have qg : ResOk K R H0 (s2.Γ.zip σ ++ τ) Hb3 H3 (imm b) w := q2p.grow e3.e g
    refine hc R H0 Hb0 _ σ _ Hb3 H3 _ _ _ (e4.push qg) ht (fun s3 c hop' z Hb4 H4 e5 b5 q5 => ?_) hx.pop
    obtain ⟨Hb4', e5', q5'⟩ := e5.imm q5
    have e6 : Env K R H0 Hb0 { s3 with b := s1.b } σ τ Hb4' H4 := e5'.pop.unb fun z => e1.nbt z
    exact ho' R H0 Hb0 s3.c _ Hb4' H4 _ _ w z Q _ e6.e e5'.top q5'.1 hop' fun r hr u Hb5 H5 g5 q6 => hk _ _ hr u Hb5 H5 (e6.grow g5) b1 q6
end
/-! ### list + list: both at hand -/
def dBinK (op : Sl → Sl → (Sl → Prop) → Prop) (f g : SE) : SE := fun s k kx => f s (fun s1 a => g (pend a s1) (fun s2 b => op a b (k { s2 with b := s1.b })) kx) kx
def lstH : Sl → Option (List D)
  | .own (.lst ds) => some ds
  | .bor (.lst ds) => some ds
  | _ => none
def oCatH : Sl → Sl → (Sl → Prop) → Prop := fun x y k => ∃ ds es, lstH x = some ds ∧ lstH y = some es ∧ ds.length + es.length ≤ 1000000 ∧ k (.own (.lst (ds ++ es)))
section
variable {K : PySem.W.Frag} {W : WX} {ta tb : TE} {f g : SE}
theorem lstH_ok {R : Option Addr} {H0 Hb H : Hp} {x : Sl} {v : V} {ds : List D} (h : SlOk K R H0 Hb H x (some v)) (q : lstH x = some ds) : ∃ a xs, v = .ref a ∧ H a = some (.lst xs) ∧ DnL K Hb xs ds := by
  cases x with
  | own d =>
    cases d <;> simp only [lstH, Option.some.injEq, reduceCtorEq] at q
    subst q
    obtain ⟨a, o, rfl, _, _, _, h5, h6⟩ := h
    cases h6 with
    | lst l => exact ⟨a, _, rfl, h5, l⟩
  | bor d =>
    cases d <;> simp only [lstH, Option.some.injEq, reduceCtorEq] at q
    subst q
    obtain ⟨a, o, rfl, _, h5, h6⟩ := h
    cases h6 with
    | lst l => exact ⟨a, _, rfl, h5, l⟩
  | _ => simp [lstH] at q
theorem ok_catH : OpOk K rCat oCatH := fun R H0 Hb0 c L Hb H x y v w Q k e hx hy ⟨ds, es, h1, h2, hl, hk⟩ q => by
  obtain ⟨a, xs, rfl, s, l⟩ := lstH_ok hx h1
  obtain ⟨b, ys, rfl, s2, l2⟩ := lstH_ok hy h2
  have e1 := l.length
  have e2 := l2.length
  exact ⟨a, b, xs, ys, rfl, rfl, s, s2, line_of (by omega), fun p hp => q _ hk _ _ _ (Grow.new e hp) (ResOk.lst e hp (l.append l2))⟩
theorem good_binK {r : R2} {op : Sl → Sl → (Sl → Prop) → Prop} (ho : OpOk K r op) (ha : GoodE K W ta f) (hb : GoodE K W tb g) : GoodE K W (tOp r ta tb) (dBinK op f g) := fun R H0 Hb0 s σ τ Hb H Q k kx e hf hk hx => by
  refine ha R H0 Hb0 s σ τ Hb H _ _ _ e hf (fun s1 a hg v Hb1 H1 e1 b1 q1 => ?_) hx
  refine hb R H0 Hb0 _ σ _ Hb1 H1 _ _ _ (e1.push q1) hg (fun s2 b hop w Hb2 H2 e2 b2 q2 => ?_) hx.pop
  have e3 : Env K R H0 Hb0 { s2 with b := s1.b } σ τ Hb2 H2 := e2.pop.unb fun z => e1.nbt z
  exact ho R H0 Hb0 s2.c _ Hb2 H2 _ _ v w Q _ e3.e e2.top q2.1 hop fun r hr u Hb3 H3 g q3 => hk _ _ hr u Hb3 H3 (e3.grow g) b1 q3
end
/-! ### xs[i] = e -/
def dSetIx (i : Nat) (fi fv : SE) : SS := fun E s => fv s (fun s1 r => (∃ d0, s1.Γ[i]? = some (.own d0)) ∧ fi (pend (imm r) s1) (fun s2 ix => ∃ d ds k j, imm r = .im d ∧ ix = .im (.int k) ∧ s2.Γ[i]? = some (.own (.lst ds)) ∧ ixN ds.length k = some j ∧
  E.nx { s2 with Γ := s2.Γ.set i (.own (.lst (ds.set j d))) }) E.ex) E.ex
section
variable {K : PySem.W.Frag} {W : WX} {ta tv : TE} {f g : SE}
theorem good_setIx {i : Nat} (hi : GoodE K W ta f) (hv : GoodE K W tv g) : GoodS K W (tAsg tv (gSub (tVar i) ta rSetL)) (dSetIx i f g) := fun R H0 Hb0 s σ τ Hb H D E e hb hf he => by
  refine hv R H0 Hb0 s σ τ Hb H _ _ _ e hf (fun s1 r ⟨⟨d0, h0⟩, h1⟩ v Hb1 H1 e1 b1 q1 => ?_) he.xk
  obtain ⟨Hb1', e1', q1'⟩ := e1.imm q1
  -- the list's name is read first, by its address
  have key : ∀ s2 ix, (∃ d ds k j, imm r = .im d ∧ ix = .im (.int k) ∧ s2.Γ[i]? = some (.own (.lst ds)) ∧ ixN ds.length k = some j ∧ E.nx { s2 with Γ := s2.Γ.set i (.own (.lst (ds.set j d))) }) →
      ∀ w Hb2 H2, Env K R H0 Hb0 s2 σ (τ ++ [(imm r, some v)]) Hb2 H2 → s2.b = s1.b → SlOk K R H0 Hb2 H2 ix (some w) → ∀ a, σ[i]? = some (some (.ref a)) → rSetL (.ref a) w v H2 fun H3 => D.nx σ H3 := by
    rintro s2 ix ⟨d, ds, k, j, g1, rfl, g3, g4, g5⟩ w Hb2 H2 e2 b2 q2 a ha
    obtain ⟨v', k1, k2, k3⟩ := e2.slot g3 (by simp)
    rw [ha] at k1
    cases k1
    obtain ⟨a', o', e', f2', f3', f4', f5', f6'⟩ := k2
    cases e'
    cases f6' with
    | @lst xs' _ l' =>
      have hd : Dn K Hb2 v d := by
        have := e2.top
        rw [g1] at this
        exact this
      refine ⟨a, xs', k, j, rfl, SlOk.int q2, f5', by rw [l'.length]; exact g4, ?_⟩
      have e3 : Env K R H0 Hb0 s2 σ τ Hb2 H2 := e2.pop
      exact he.nx _ _ _ _ g5 (e3.wr (b2.trans (b1.trans hb)) g3 ha (.lst (l'.set hd j))) (b2.trans (b1.trans hb))
  obtain ⟨v0, k1, k2, k3⟩ := e1'.slot h0 (by simp)
  obtain ⟨a, o, rfl, _⟩ := k2
  refine ⟨_, k1, ?_⟩
  have hpb : (pend (imm r) s1).b = s1.b ∨ ∃ d, imm r = .bor d := by
    cases hr : imm r <;> simp [pend]
  refine hi R H0 Hb0 _ σ _ Hb1' H1 _ _ _ (e1'.push q1') h1 (fun s2 ix h2 w Hb2 H2 e2 b2 q2 => ?_) he.xk.pop
  have hb2 : s2.b = s1.b := by
    rcases hpb with z | ⟨d, z⟩
    · exact b2.trans z
    · obtain ⟨d', _, _, _, z', _⟩ := h2
      rw [z] at z'; cases z'
  exact key s2 ix h2 w Hb2 H2 e2 hb2 q2.1 a k1
end
end DL

/-! ## DL9 -/
set_option Elab.async false
set_option linter.all false
set_option autoImplicit false
set_option maxRecDepth 100000
set_option maxHeartbeats 400000
namespace DL
open PySem L2
section
variable {X : Cx} {W : WX} {x : Str} {pos p : Pos} {a b c e : Expr} {es : List Expr} {f g h : SE} {fs : SA} {j : Nat}
theorem de_chain {o o' : CmpOp} {r r' : R2} {op op' : Sl → Sl → (Sl → Prop) → Prop} (ho : OpR X (compareOp o) r) (ho' : OpR X (compareOp o') r') (hr : OpOk X.K r op) (hr' : OpOk X.K r' op') (ha : PE X a (tD X.K W f)) (hb : PE X b (tD X.K W g)) (hc : PE X c (tD X.K W h))
    (hm : lastMarks [o, o'] [b, c] = false := by with_unfolding_all rfl) : PE X (.Compare a [o, o'] [b, c] pos) (tD X.K W (dChain op op' f g h)) := deG (pe_chain ho ho' ha hb hc hm) (good_chain hr hr' goodD goodD goodD)
theorem dt_chain {o o' : CmpOp} {r r' : R2} {op op' : Sl → Sl → (Sl → Prop) → Prop} (ho : OpR X (compareOp o) r) (ho' : OpR X (compareOp o') r') (hr : OpOk X.K r op) (hr' : OpOk X.K r' op') (ha : PE X a (tD X.K W f)) (hb : PE X b (tD X.K W g)) (hc : PE X c (tD X.K W h))
    (hm : lastMarks [o, o'] [b, c] = false := by with_unfolding_all rfl) : PT X (.Compare a [o, o'] [b, c] pos) (tT X.K W (dTest (dChain op op' f g h))) := dtG (pt_chain ho ho' ha hb hc hm) (good_test (good_chain hr hr' goodD goodD goodD))
theorem de_opK {o : Operator} {r : R2} {op : Sl → Sl → (Sl → Prop) → Prop} (ho : OpR X (binaryOp o) r) (hr : OpOk X.K r op) (ha : PE X a (tD X.K W f)) (hb : PE X b (tD X.K W g)) : PE X (.BinOp a o b pos) (tD X.K W (dBinK op f g)) := deG (pe_op ho ha hb) (good_binK hr goodD goodD)
theorem de_un {o : UnaryOp} {r : V → Hp → VK → Prop} {op : Sl → (Sl → Prop) → Prop} (ho : UnR X (unaryOp o) r) (hr : UnOk X.K r op) (ha : PE X a (tD X.K W f)) : PE X (.UnaryOp o a pos) (tD X.K W (dUn op f)) := deG (pe_un ho ha) (good_un (r := r) hr goodD)
theorem ds_setIx {i : Nat} {tg : Expr} (hg : PG X tg (gSub (tVar i) (tD X.K W f) rSetL)) (hv : PE X e (tD X.K W g)) (hs : swapsWithSole [tg] e pos.line X.env = pure false := by rfl) (hw : swappedStores [tg] e X.env = pure none := by rfl) (h1 : (assignEach [tg] X.env).map (·.2) = [assign tg X.env] := by rfl) :
    PS X (.Assign [tg] e pos) (tS X.K W (dSetIx i f g)) := dsG (ps_asg hv hg hs hw h1) (good_setIx goodD goodD)
end
theorem room65 {k : Nat} {A : Around} (r : Room k A) : A.units + 65 < cLine := by have := r.un; omega
/-! ### numbers -/
def oNeg : Sl → (Sl → Prop) → Prop := fun x k => ∃ i, x = .im (.int i) ∧ k (.im (.int (-i)))
theorem ok_neg {K : PySem.W.Frag} : UnOk K (rU fun i => .int (-i)) oNeg := fun R H0 Hb0 c L Hb H x v Q k e hx ⟨i, h1, hk⟩ q => by
  subst h1
  exact ⟨i, SlOk.int hx, q _ hk _ Hb H (Grow.refl e) (ResOk.im (Dn.int _))⟩
section
variable {K : PySem.W.Frag}
abbrev oAdd := oI fun i j => .int (i + j)
abbrev oSub := oI fun i j => .int (i - j)
abbrev oMul := oIC CMul fun i j => .int (i * j)
abbrev oMod := oIC (fun _ j => 0 < j) fun i j => .int (i % j)
abbrev oFdiv := oIC CDiv fun i j => .int (i / j)
abbrev oLt := oI fun i j => .bl (decide (i < j))
abbrev oLe := oI fun i j => .bl (decide (i ≤ j))
abbrev oGt := oI fun i j => .bl (decide (j < i))
abbrev oGe := oI fun i j => .bl (decide (j ≤ i))
theorem ok_add : OpOk K (rI0 fun i j => .int (i + j)) oAdd := ok_I fun _ _ _ => Dn.int _
theorem ok_sub : OpOk K (rI0 fun i j => .int (i - j)) oSub := ok_I fun _ _ _ => Dn.int _
theorem ok_mul : OpOk K (rI CMul fun i j => .int (i * j)) oMul := ok_IC fun _ _ _ => Dn.int _
theorem ok_mod : OpOk K (rI (fun _ j => 0 < j) fun i j => .int (i % j)) oMod := ok_IC fun _ _ _ => Dn.int _
theorem ok_fdiv : OpOk K (rI CDiv fun i j => .int (i / j)) oFdiv := ok_IC fun _ _ _ => Dn.int _
theorem ok_lt : OpOk K (rI0 fun i j => .bl (decide (i < j))) oLt := ok_I fun _ _ _ => Dn.bl _
theorem ok_le : OpOk K (rI0 fun i j => .bl (decide (i ≤ j))) oLe := ok_I fun _ _ _ => Dn.bl _
theorem ok_gt : OpOk K (rI0 fun i j => .bl (decide (j < i))) oGt := ok_I fun _ _ _ => Dn.bl _
theorem ok_ge : OpOk K (rI0 fun i j => .bl (decide (j ≤ i))) oGe := ok_I fun _ _ _ => Dn.bl _
/-- len of anything that has one -/
def lenA : D → Option Nat
  | .tup ds => some ds.length
  | .lst ds => some ds.length
  | .str x => if x.length ≤ 1000000 then some x.length else none
  | _ => none
def oLenA : List Sl → (Sl → Prop) → Prop := fun as k => ∃ x d n, as = [x] ∧ rdD x = some d ∧ lenA d = some n ∧ k (.im (.int n))
theorem ok_lenA : CbOk K (fun xs H Q => ∃ x n, xs = [x] ∧ LenV K x H n ∧ Q (.int n) H) oLenA := fun R H0 Hb0 c L Hb H as vs Q k e ha ⟨x, d, n, h1, h2, h3, hk⟩ q => by
  subst h1
  obtain ⟨v, rfl, hx⟩ := args1 ha
  have hd := hx.rd e h2
  refine ⟨v, n, rfl, ?_, q _ hk (.int n) Hb H (Grow.refl e) (ResOk.im (Dn.int _))⟩
  cases d <;> simp only [lenA, Option.some.injEq, reduceCtorEq] at h3
  · rw [hd.str']
    split at h3
    · rename_i hl
      exact ⟨line_of hl, (Option.some.inj h3).symm⟩
    · cases h3
  · obtain ⟨a, xs, rfl, s, l⟩ := hd.tup'
    exact .inr ⟨xs, s, by rw [l.length, h3]⟩
  · obtain ⟨a, xs, rfl, s, l⟩ := hd.lst'
    exact .inl ⟨xs, s, by rw [l.length, h3]⟩
end
/-! ### own exceptions without an __init__ -/
structure XcC (K : PySem.W.Frag) (mg : Str → Option Value) (x : Str) (C : Addr) : Prop where
  xP : PySem.W.excIn K C [.type "ValueError", .type "Exception", .type "BaseException", .type "object"] "ValueError.__new__" = true
  gP : mg x = some (.ref C)
  kP : PySem.W.keepIn K (.ref C) = true
  bP : PySem.W.subIn K (.ref C) (.type "BaseException") = some true
  tP : PySem.W.typeIn K (.ref C) = some (.type "type")
theorem ds_raise {X : Cx} {W : WX} {x m : Str} {j : Nat} {p p2 p3 pos : Pos} {C : Addr} (c : XcC X.K X.mg x C) (tk : Takes X W) (hc : X.calm = true := by rfl) (hg : Gl X x := by rfl) (hdb : (x == ("__debug__" : Str)) = false := by decide) :
    PS X (.Raise (some (.Call (.Name x p) [.Constant (.str m) j p2] [] p3)) none pos) (tS X.K W (dRaise C)) :=
  dsG (ps_raise hc tk (pmk_own PySem.F.excBase_ValueError c.xP c.gP c.kP (raises_own c.bP c.tP) hg hdb)) good_raise
end DL
namespace DL
open PySem L2
section
variable {K : PySem.W.Frag}
def oAbs : List Sl → (Sl → Prop) → Prop := fun as k => ∃ i : Int, as = [.im (.int i)] ∧ k (.im (.int (if i < 0 then -i else i)))
theorem ok_abs : CbOk K (fun xs H Q => ∃ i : Int, xs = [.int i] ∧ Q (.int (if i < 0 then -i else i)) H) oAbs := fun R H0 Hb0 c L Hb H as vs Q k e ha ⟨i, h1, hk⟩ q => by
  subst h1
  obtain ⟨v, rfl, hx⟩ := args1 ha
  have : v = .int i := SlOk.int hx
  subst this
  exact ⟨i, rfl, q _ hk _ Hb H (Grow.refl e) (ResOk.im (Dn.int _))⟩
abbrev oPow := oIC CPow fun i j => .int (i ^ j.toNat)
theorem ok_pow : OpOk K (rI CPow fun i j => .int (i ^ j.toNat)) oPow := ok_IC fun _ _ _ => Dn.int _
end
/-- a draw: some number below m -/
def gTake : SF := fun c as k _ => ∃ m : Int, as = [.rng, .im (.int m)] ∧ 0 < m ∧ c < 1000000000 ∧ ∀ r : Int, 0 ≤ r → r < m → k (c + 1) (.im (.int r))
/-- the state of the draws as it stands, and with one draw more -/
theorem EnvL.drawn {K : PySem.W.Frag} {H Hb : Hp} {c : Nat} {a rr : Addr} {sd : Int} (e : EnvL K (some a) H Hb c [] Hb H) (h : H a = some (.lst [.ref rr, .int c, .int sd])) : EnvL K (some a) H Hb (c + 1) [] Hb (upd H a (.lst [.ref rr, .int ((c : Int) + 1), .int sd])) := by
  have ne : ∀ b, some a ≠ some b → b ≠ a := fun b n z => n (by rw [z])
  refine ⟨fun b o q n => by rw [upd_ne (ne b n)]; exact q, e.bas, e.fr, fun b o q => ⟨by rw [upd_ne (ne b (e.sub b o q).2)]; exact (e.sub b o q).1, (e.sub b o q).2⟩, fun b hb => ?_, fun i t q => by simp at q, fun i j b ⟨d, q⟩ => by simp at q, fun i j b ⟨d, q⟩ => by simp at q⟩
  cases hb
  obtain ⟨rr', ns, sd', e1, e2⟩ := e.rng a rfl
  rw [h] at e1
  cases e1
  exact ⟨rr, ns, sd, by rw [upd_same]; simp, e2⟩
end DL

/-! ## DL10 -/
set_option Elab.async false
set_option linter.all false
set_option autoImplicit false
set_option maxRecDepth 100000
set_option maxHeartbeats 400000
namespace DL
open PySem L2
/-! ### loops, by what holds between the turns -/
def stepC (Γw : List Sl) (b : Bool) (tg : TD) (tt : ST) (te : SE) (d : D) (c : Nat) (ky : Nat → D → Prop) (kn : Nat → Prop) : Prop :=
  tg d ⟨c, Γw, b⟩ fun s1 => tt s1 (fun s2 t => s2.Γ = s1.Γ ∧ if t = true then te s2 (fun s3 r => s3.Γ = s1.Γ ∧ ∃ y, imm r = .im y ∧ ky s3.c y) (fun _ _ => False) else kn s2.c) (fun _ _ => False)
section
variable {Γw : List Sl} {b : Bool} {tg : TD} {tt : ST} {te : SE} {k : Nat → List D → Prop}
theorem loopC_cons {d : D} {ds acc : List D} {c : Nat} (h : stepC Γw b tg tt te d c (fun c' y => acc.length ≤ 1000000 ∧ loopC Γw b tg tt te k ds (acc ++ [y]) c') (fun c' => loopC Γw b tg tt te k ds acc c')) : loopC Γw b tg tt te k (d :: ds) acc c := h
/-- each item gives its own value -/
theorem loopC_map (f : D → D) : ∀ (ds acc : List D) (c : Nat), (∀ d ∈ ds, ∀ ky kn, ky c (f d) → stepC Γw b tg tt te d c ky kn) → acc.length + ds.length ≤ 1000000 → k c (acc ++ ds.map f) → loopC Γw b tg tt te k ds acc c
  | [], acc, c, _, _, h => by simpa [loopC] using h
  | d :: ds, acc, c, hs, hl, h => by
    rw [List.length_cons] at hl
    refine loopC_cons (hs d (by simp) _ _ ⟨by omega, ?_⟩)
    refine loopC_map f ds (acc ++ [f d]) c (fun d' hd => hs d' (by simp [hd])) (by rw [List.length_append, List.length_singleton]; omega) ?_
    simpa using h
/-- .. or none -/
theorem loopC_filter (f : D → Option D) : ∀ (ds acc : List D) (c : Nat), (∀ d ∈ ds, ∀ (ky : Nat → D → Prop) (kn : Nat → Prop), (∀ y, f d = some y → ky c y) → (f d = none → kn c) → stepC Γw b tg tt te d c ky kn) → acc.length + ds.length ≤ 1000000 → k c (acc ++ ds.filterMap f) → loopC Γw b tg tt te k ds acc c
  | [], acc, c, _, _, h => by simpa [loopC] using h
  | d :: ds, acc, c, hs, hl, h => by
    rw [List.length_cons] at hl
    refine loopC_cons (hs d (by simp) _ _ (fun y hy => ⟨by omega, ?_⟩) fun hy => ?_)
    · refine loopC_filter f ds (acc ++ [y]) c (fun d' hd => hs d' (by simp [hd])) (by rw [List.length_append, List.length_singleton]; omega) ?_
      simpa [hy] using h
    · refine loopC_filter f ds acc c (fun d' hd => hs d' (by simp [hd])) (by omega) ?_
      simpa [hy] using h
/-- each item gives some value, by at most n draws -/
theorem loopC_some (P : D → Prop) (n B : Nat) : ∀ (ds acc : List D) (c : Nat), (∀ d ∈ ds, ∀ c ky kn, c + n ≤ B → (∀ y c', P y → c' ≤ c + n → ky c' y) → stepC Γw b tg tt te d c ky kn) → acc.length + ds.length ≤ 1000000 → c + n * ds.length ≤ B →
    (∀ ys c', ys.length = ds.length → (∀ y ∈ ys, P y) → c' ≤ c + n * ds.length → k c' (acc ++ ys)) → loopC Γw b tg tt te k ds acc c
  | [], acc, c, _, _, _, h => by simpa [loopC] using h [] c rfl (by simp) (by simp)
  | d :: ds, acc, c, hs, hl, hB, h => by
    rw [List.length_cons] at hl
    rw [List.length_cons, Nat.mul_succ] at hB
    refine loopC_cons (hs d (by simp) c _ _ (by omega) fun y c' hy hc => ⟨by omega, ?_⟩)
    refine loopC_some P n B ds (acc ++ [y]) c' (fun d' hd => hs d' (by simp [hd])) (by rw [List.length_append, List.length_singleton]; omega) (by omega) fun ys c2 h1 h2 h3 => ?_
    have := h (y :: ys) c2 (by simp [h1]) (by simpa using ⟨hy, h2⟩) (by rw [List.length_cons, Nat.mul_succ]; omega)
    simpa using this
end
theorem loopD_inv {tg : TD} {body : SS} {E : DE} (Inv : List D → S → Prop) (all : List D)
    (hs : ∀ pre d post s (N : S → Prop), all = pre ++ d :: post → Inv pre s → (∀ s', Inv (pre ++ [d]) s' → N s') → tg d s fun s1 => body { E with nx := N, ct := N, bk := E.nx } s1)
    (he : ∀ s, Inv all s → E.nx s) : ∀ (ds pre : List D) (s : S), all = pre ++ ds → Inv pre s → loopD tg body E ds s
  | [], pre, s, e, h => he s (by rw [e, List.append_nil]; exact h)
  | d :: ds, pre, s, e, h => by
    refine hs pre d ds s _ e h fun s' h' => ?_
    exact loopD_inv Inv all hs he ds (pre ++ [d]) s' (by rw [e]; simp) h'
theorem loopD_run {tg : TD} {body : SS} {E : DE} {ds : List D} {s : S} (Inv : List D → S → Prop) (h0 : Inv [] s)
    (hs : ∀ pre d post s (N : S → Prop), ds = pre ++ d :: post → Inv pre s → (∀ s', Inv (pre ++ [d]) s' → N s') → tg d s fun s1 => body { E with nx := N, ct := N, bk := E.nx } s1)
    (he : ∀ s, Inv ds s → E.nx s) : loopD tg body E ds s := loopD_inv Inv ds hs he ds [] s rfl h0
end DL

/-! ## DL11 -/
set_option Elab.async false
set_option linter.all false
set_option autoImplicit false
set_option maxRecDepth 100000
set_option maxHeartbeats 2000000
namespace DL
open PySem L2
/-! ### try: .. except C as n: .. else: .. -/
section
variable {X : Cx} {x n : Str} {c : Value} {i : Nat} {body suite orelse : List Stmt} {b₀ : Stmt} {np pos pos' : Pos} {tb : WX → TS} {ts : Addr → Value → Option Addr → TS} {Wout : WX} {u : TS}
theorem ps_try_asE (ho : PSs X orelse u) (hs : X.stack = X.env :: X.outer) (hf : X.env.frame = some X.env.locals) (hN : X.N.Nodup) (hi : X.N[i]? = some n) (hln : X.env.kindOf n = some .local) (hc : Names X x c) (tk : Takes X Wout)
    (hb : ∀ W pn xe, Takes (X.tr pn xe) W → PassesOwn (model X.prog X.w) X.A X.env xe → PSs (X.tr pn xe) body (tb W))
    (hsu : ∀ a oe cls d pn, Zc cls d oe → (∃ vs, oe.data = .fields vs) → PSs (X.suite a ((a, oe) :: pn)) (b₀ :: suite) (ts a cls d)) :
    PS X (.Try body [.ExceptHandler (some (.Name x np)) (some n) (b₀ :: suite) pos'] orelse [] pos) (fun D σ H => tb (wAs X.K c i ts Wout D) { D with nx := u D } σ H) := by
  constructor
  intro pins s σ H D I0 h0
  have okX := I0.ok
  have frm : X.A.frames = some (X.env :: X.outer) := okX.frames.trans (by rw [hs])
  apply wpAny_Try_except
  -- what is wanted where the body raises
  let cat : Value → Shared → Prop := fun e z => wpAny (model X.prog X.w) X.A (noteFrame e X.env) (fun _ z2 => wpAny (model X.prog X.w) X.A (setFlight e none) (fun _ z3 =>
    wpAny (model X.prog X.w) X.A (handleBy e X.env [.ExceptHandler (some (.Name x np)) (some n) (b₀ :: suite) pos']) (SP X pins D) X.xe z3) X.xe z2) X.xe z
  have takes : Takes (X.tr (X.pn ++ pins) cat) (wAs X.K c i ts Wout D) := by
    rintro v z ⟨a, B, sI, pins2, σ2, H2, cls, d, rfl, I2, nb, up, sky, na, os, ag, bb, hm, yes, no⟩
    have J := I2.ofTry okX
    rw [hs] at sky
    refine Sky.land Zc.steady frm hf sky fun hp fl up2 => ?_
    obtain ⟨oe, vs, g1, g2, g3⟩ := fl.there
    have J2 : Inv X pins σ2 H2 { z with heap := hp } := J.landed nb fl.1 (up.trans up2) os ag
    -- the error's own object is no frame's
    have out : a ∉ frs (X.env :: X.outer) := fun q => by
      obtain ⟨_, o2, e2, bad⟩ := fl.2.2.1.mem q
      rw [g1] at e2
      cases e2
      exact bad _ g3
    have n1 : a ≠ X.env.locals := fun q => out (by
      refine List.mem_filterMap.mpr ⟨X.env, .head _, ?_⟩
      rw [hf, q])
    have n2 : a ∉ X.fs := fun q => out (by
      obtain ⟨en, m1, m2⟩ := List.mem_filterMap.mp q
      exact List.mem_filterMap.mpr ⟨en, .tail _ m1, m2⟩)
    have S2 := J2.suite g1 g3 na n1 n2
    refine wpAny_handleBy_cons (codeAny_handlers_test ?_) (fun q => by cases q)
    have look : PySem.W.Looks (model X.prog X.w) hp (typeOf (.ref a)) cls := fun _ _ _ _ kp q => wpAny_typeOf_ref (kp _ _ g1) (g2.1 ▸ q)
    have mt := PySem.W.exm_one (M := model X.prog X.w) J2.kIn look hm
    have nameOk : ∀ {Q E : Value → Shared → Prop}, Q c { z with heap := hp } → wpAny (model X.prog X.w) (X.A.mark (some (.ref a))) (eval (.Name x np) X.env) Q E { z with heap := hp } := by
      intro Q E q
      rcases hc with ⟨k1, k2, k3 | ⟨k3, k4, k5⟩⟩
      · exact ld_glob (X := X.suite a ((a, oe) :: (X.pn ++ pins))) S2 k1 k3 q k2
      · exact ld_blt (X := X.suite a ((a, oe) :: (X.pn ++ pins))) S2 k1 k3 k4 q k5 k2
    refine nameOk (mt.here ?_)
    cases bb with
    | false =>
      -- another clause's matter
      refine wpAny_handleBy_nil ?_
      obtain ⟨_, _, _, oz, ws, T, _, _, p1, _, p3, p4, _⟩ := id fl
      unfold PySem.passOn
      refine wpAny_bind (wpAny_field p1 p3 p4 ?_)
      rw [if_neg (show ¬ (Value.ref T == Value.none) = true by simp)]
      have on : wpAny (model X.prog X.w) X.A (setFlight (.ref a) X.env.frame) (fun _ z4 => wpAny (model X.prog X.w) X.A (throw (.ref a) : Sem Flow) (SP X pins D) X.xe z4) X.xe { z with heap := hp } := by
        rw [hf]
        refine HandSPX.setFlight_upZ fl fun h4 held up4 => wpAny_throw (tk _ _ ?_)
        refine ⟨a, B, sI, pins, σ2, H2, cls, d, rfl, J, nb, (up.trans up2).trans up4, .inr (.inr ?_), na, os, ag, no rfl⟩
        rw [hs]
        exact held
      first
        | exact wpAny_bind (wpAny_pure (wpAny_bind on))
        | exact wpAny_bind on
    | true =>
      refine codeAny_handlers_suite_as (HandSPX.lands_againZ fl fun h4 fl4 up4 => ?_)
      obtain ⟨oe4, vs4, q1, q2, q3⟩ := fl4.there
      have J4 : Inv X pins σ2 H2 { z with heap := h4 } := J.landed nb fl4.1 ((up.trans up2).trans up4) os ag
      have S4 := J4.suite q1 q3 na n1 n2
      refine store_ok (X := X.suite a ((a, oe4) :: (X.pn ++ pins))) (v := .ref a) S4 hN hi (.inl hln) rfl (fun z5 S5 => ?_) (.inr hln)
      have run := (hsu a oe4 cls d (X.pn ++ pins) q2 ⟨_, q3⟩).run [] z5 _ H2 _ S5 (yes rfl a na)
      refine wpAny_mono run (fun f z6 hsp => ?_) (fun _ _ q => q.elim)
      have unname : ∀ {σ6 : L2.St} {H6 : Hp} {Q : Shared → Prop}, Inv (X.suite a ((a, oe4) :: (X.pn ++ pins))) [] σ6 H6 z6 → (∀ z7, Inv X pins (σ6.set i none) H6 z7 → Q z7) →
          wpAny (model X.prog X.w) X.A (do bindName X.env n .none; unbindBehindTheSuite X.env n pos') (fun _ z7 => Q z7) X.xe z6 := fun {_ _ _} S6 q => gone_ok (S6.unsuite okX) hN hi hln q
      cases f with
      | next =>
        obtain ⟨_, _, S6, q6⟩ := hsp
        exact unname S6 fun _ J7 => ⟨_, _, J7, q6⟩
      | brk =>
        obtain ⟨_, _, S6, q6⟩ := hsp
        exact unname S6 fun _ J7 => ⟨_, _, J7, q6⟩
      | cont =>
        obtain ⟨_, _, S6, q6⟩ := hsp
        exact unname S6 fun _ J7 => ⟨_, _, J7, q6⟩
      | ret v6 =>
        obtain ⟨_, _, _, S6, r6, q6⟩ := hsp
        exact unname S6 fun _ J7 => ⟨_, _, _, J7, r6, q6⟩
  refine wpAny_mono ((hb (wAs X.K c i ts Wout D) (X.pn ++ pins) cat takes PassesOwn.looking).run [] s σ H { D with nx := u D } (I0.toTry _) h0) (fun f z hsp => ?_) (fun _ _ q => q)
  cases f with
  | next =>
    obtain ⟨σ3, H3, J3, q3⟩ := hsp
    exact ho.run pins z σ3 H3 D (J3.ofTry okX) q3
  | brk =>
    obtain ⟨σ3, H3, J3, q3⟩ := hsp
    exact ⟨σ3, H3, J3.ofTry okX, q3⟩
  | cont =>
    obtain ⟨σ3, H3, J3, q3⟩ := hsp
    exact ⟨σ3, H3, J3.ofTry okX, q3⟩
  | ret v =>
    obtain ⟨w3, σ3, H3, J3, r3, q3⟩ := hsp
    exact ⟨w3, σ3, H3, J3.ofTry okX, r3, q3⟩
end
/-! ### the same, without a heap: the one error that may come is of class C, without fields -/
/-- where the name of the error is let go -/
def gone (i : Nat) (k : S → Prop) : S → Prop := fun s => k { s with Γ := s.Γ.set i .no }
def dTryAs (C : Addr) (i : Nat) (suite : Addr → SS) (body orelse : SS) : SS := fun E s =>
  body { E with nx := orelse E, ex := fun s' x => x = ⟨.ref C, none⟩ ∧ ∀ a, suite a { nx := gone i E.nx, rt := E.rt, bk := gone i E.bk, ct := gone i E.ct, ex := fun _ _ => False } { s' with b := false, Γ := s'.Γ.set i (.im (.ptr a)) } } s
def dTryO (C : Addr) (suite : SS) (body orelse : SS) : SS := fun E s =>
  body { E with nx := orelse E, ex := fun s' x => x = ⟨.ref C, none⟩ ∧ suite { E with ex := fun _ _ => False } { s' with b := false } } s
section
variable {K : PySem.W.Frag} {W : WX} {R : Option Addr} {H0 Hb0 Hb H : Hp} {s : S} {σ : L2.St} {τ : LE}
theorem Env.goneS {i : Nat} (e : Env K R H0 Hb0 s σ τ Hb H) : Env K R H0 Hb0 { s with Γ := s.Γ.set i .no } (σ.set i none) τ Hb H := by
  refine e.re (vs := [i]) (by simp) (by simp) (fun j t hj q => ?_) fun j hj => ?_
  · have hj : j = i := by simpa using hj
    subst hj
    have hl := (List.getElem?_eq_some_iff.mp q).1
    rw [List.length_set] at hl
    rw [List.getElem?_set_self hl] at q
    exact (Option.some.inj q).symm
  · have : i ≠ j := fun z => hj (by simp [z])
    exact ⟨List.getElem?_set_ne this, List.getElem?_set_ne this⟩
theorem good_tryAs {C : Addr} {c : Value} {i : Nat} {tb : WX → TS} {body orelse : SS} {suite : Addr → SS} {u : TS} (hm : PySem.W.exmOne K (.ref C) c = some true) (hb : ∀ W', GoodS K W' (tb W') body) (ho : GoodS K W u orelse) :
    GoodS K W (fun D σ H => tb (wAs K c i (fun a cls d => fun D σ H => (cls = .ref C ∧ d = none) ∧ tS K W0 (suite a) D σ H) W D) { D with nx := u D } σ H) (dTryAs C i suite body orelse) := fun R H0 Hb0 s σ τ Hb H D E e hbf hf he => by
  refine hb _ R H0 Hb0 s σ τ Hb H _ _ e hbf hf ⟨fun s' σ' Hb' H' q e' b' => ho R H0 Hb0 s' σ' τ Hb' H' D E e' b' q he, he.bk, he.ct, he.rt, fun s' x ⟨hx, hq⟩ cls d σ' Hb' H' e' xo => ?_⟩
  subst hx
  obtain ⟨xo1, xo2⟩ := xo
  have xo1 : cls = .ref C := xo1
  have xo2 : d = none := xo2
  subst xo1 xo2
  refine ⟨true, hm, fun _ a na => ⟨⟨rfl, rfl⟩, ?_⟩, fun z => by cases z⟩
  have e2 : Env K R H0 Hb0 { s' with b := false } σ' τ Hb' H' := e'.unb fun _ => e.nbt hbf
  have e3 := e2.put' (i := i) (r := .im (.ptr a)) (v := .ref a) (ResOk.im (Dn.ptr a)) trivial
  exact ⟨R, H0, Hb0, _, τ, Hb', _, e3, rfl, hq a, ⟨fun s2 σ2 Hb2 H2 q e4 b4 => he.nx _ _ Hb2 H2 q e4.goneS b4, fun s2 σ2 Hb2 H2 q e4 b4 => he.bk _ _ Hb2 H2 q e4.goneS b4, fun s2 σ2 Hb2 H2 q e4 b4 => he.ct _ _ Hb2 H2 q e4.goneS b4, he.rt, fun _ _ q => q.elim⟩⟩
theorem good_tryO {C : Addr} {c : Value} {tb : WX → TS} {body orelse suite : SS} {u : TS} (hm : PySem.W.exmOne K (.ref C) c = some true) (hb : ∀ W', GoodS K W' (tb W') body) (ho : GoodS K W u orelse) :
    GoodS K W (fun D σ H => tb (wOnly K c (fun a cls d => fun D σ H => (cls = .ref C ∧ d = none) ∧ tS K W0 suite D σ H) W D) { D with nx := u D } σ H) (dTryO C suite body orelse) := fun R H0 Hb0 s σ τ Hb H D E e hbf hf he => by
  refine hb _ R H0 Hb0 s σ τ Hb H _ _ e hbf hf ⟨fun s' σ' Hb' H' q e' b' => ho R H0 Hb0 s' σ' τ Hb' H' D E e' b' q he, he.bk, he.ct, he.rt, fun s' x ⟨hx, hq⟩ cls d σ' Hb' H' e' xo => ?_⟩
  subst hx
  obtain ⟨xo1, xo2⟩ := xo
  have xo1 : cls = .ref C := xo1
  have xo2 : d = none := xo2
  subst xo1 xo2
  refine ⟨true, hm, fun _ a na => ⟨⟨rfl, rfl⟩, ?_⟩, fun z => by cases z⟩
  have e2 : Env K R H0 Hb0 { s' with b := false } σ' τ Hb' H' := e'.unb fun _ => e.nbt hbf
  exact ⟨R, H0, Hb0, _, τ, Hb', _, e2, rfl, hq, ⟨he.nx, he.bk, he.ct, he.rt, fun _ _ q => q.elim⟩⟩
end
section
variable {X : Cx} {W : WX} {x n : Str} {c : Value} {i : Nat} {body suite orelse : List Stmt} {b₀ : Stmt} {np pos pos' : Pos} {C : Addr} {F G : SS} {Sf : Addr → SS}
theorem ds_tryAs (hm : PySem.W.exmOne X.K (.ref C) c = some true) (ho : PSs X orelse (tS X.K W G)) (hs : X.stack = X.env :: X.outer) (hf : X.env.frame = some X.env.locals) (hN : X.N.Nodup) (hi : X.N[i]? = some n) (hln : X.env.kindOf n = some .local) (hc : Names X x c) (tk : Takes X W)
    (hb : ∀ W' pn xe, Takes (X.tr pn xe) W' → PassesOwn (model X.prog X.w) X.A X.env xe → PSs (X.tr pn xe) body (tS X.K W' F))
    (hsu : ∀ a oe pn, Zc (.ref C) none oe → (∃ vs, oe.data = .fields vs) → PSs (X.suite a ((a, oe) :: pn)) (b₀ :: suite) (tS X.K W0 (Sf a))) :
    PS X (.Try body [.ExceptHandler (some (.Name x np)) (some n) (b₀ :: suite) pos'] orelse [] pos) (tS X.K W (dTryAs C i Sf F G)) :=
  dsG (ps_try_asE ho hs hf hN hi hln hc tk hb (ts := fun a cls d => fun D σ H => (cls = .ref C ∧ d = none) ∧ tS X.K W0 (Sf a) D σ H) fun a oe cls d pn hz hfs =>
    ⟨fun pins s σ H D I ⟨⟨e1, e2⟩, q⟩ => by subst e1 e2; exact (hsu a oe pn hz hfs).run pins s σ H D I q⟩) (good_tryAs (tb := fun W' => tS X.K W' F) hm (fun W' => goodS) goodS)
end
/-- isinstance(error, D) in the suite -/
def oIsE (a D : Addr) (b : Bool) : List Sl → (Sl → Prop) → Prop := fun as k => as = [.im (.ptr a), .im (.ptr D)] ∧ k (.im (.bl b))
theorem ok_isE {K : PySem.W.Frag} {C D a : Addr} {b : Bool} (h : PySem.W.kitOne K (.ref C) (.ref D) = some b) : CbOk K (rIsE K C a) (oIsE a D b) := fun R H0 Hb0 c L Hb H as vs Q k e ha ⟨h1, hk⟩ q => by
  subst h1
  obtain ⟨v, w, rfl, hx, hy⟩ := args2 ha
  have e1 : v = .ref a := Dn.ptr' (K := K) (H := Hb) hx
  have e2 : w = .ref D := Dn.ptr' (K := K) (H := Hb) hy
  subst e1 e2
  exact ⟨_, .ref D, b, rfl, fun u r => r, h, q _ hk _ Hb H (Grow.refl e) (ResOk.im (Dn.bl _))⟩
end DL

/-! ## DL12 -/
set_option Elab.async false
set_option linter.all false
set_option autoImplicit false
set_option maxRecDepth 100000
set_option maxHeartbeats 2000000
namespace DL
open PySem L2
/-! ### a list of lists of one's own, written within -/
abbrev TV := List (List D × Addr)
def tvL (T : TV) : LE := T.map fun x => (.own (.lst x.1), some (.ref x.2))
def tvV (T : TV) : List V := T.map fun x => .ref x.2
structure Told (K : PySem.W.Frag) (R : Option Addr) (H0 Hb0 : Hp) (s : S) (σ : L2.St) (τ : LE) (Hb H : Hp) (i : Nat) (t : Addr) (T : TV) : Prop where
  i0 : s.Γ[i]? = some (.im (.ptr t))
  h0 : H0 t = none
  b0 : Hb0 t = none
  rt : R ≠ some t
  e : Env K R (upd H0 t (.lst (tvV T))) Hb0 s σ (τ ++ tvL T) Hb H
section
variable {K : PySem.W.Frag} {W : WX} {R : Option Addr} {H0 Hb0 Hb H : Hp} {s : S} {σ : L2.St} {τ : LE} {c : Nat} {L : LE} {t : Addr} {o : HO} {i : Nat} {T : TV}
theorem SlOk.low {r : Sl} {v : Option V} (h : SlOk K R (upd H0 t o) Hb H r v) : SlOk K R H0 Hb H r v := by
  have key : ∀ a, upd H0 t o a = none → H0 a = none := fun a q => by
    by_cases z : a = t
    · subst z; rw [upd_same] at q; cases q
    · rw [upd_ne z] at q; exact q
  cases r with
  | no => trivial
  | im d => cases v <;> exact h
  | own d =>
    cases v with
    | none => exact h
    | some v =>
      obtain ⟨a, o, h1, h2, h3, h4, h5⟩ := h
      exact ⟨a, o, h1, h2, h3, key a h4, h5⟩
  | tmp d =>
    cases v with
    | none => exact h
    | some v =>
      obtain ⟨a, o, h1, h2, h3, h4, h5⟩ := h
      exact ⟨a, o, h1, h2, h3, key a h4, h5⟩
  | bor d => cases v <;> exact h
  | rng => cases v <;> exact h
theorem EnvL.low (e : EnvL K R (upd H0 t o) Hb0 c L Hb H) (h : H0 t = none) : EnvL K R H0 Hb0 c L Hb H := by
  have key : ∀ b u, H0 b = some u → upd H0 t o b = some u := fun b u q => by
    have : b ≠ t := fun z => by rw [z, h] at q; cases q
    rw [upd_ne this]; exact q
  exact ⟨fun b u q n => e.keep b u (key b u q) n, e.bas, fun b u q => e.fr b u (key b u q), e.sub, e.rng, fun i x q => (e.it i x q).low, e.ap, e.bt⟩
theorem Env.low (e : Env K R (upd H0 t o) Hb0 s σ τ Hb H) (h : H0 t = none) : Env K R H0 Hb0 s σ τ Hb H := ⟨e.len, e.nb, e.nbt, e.e.low h⟩
theorem Env.popA {τ' : LE} (e : Env K R H0 Hb0 s σ (τ ++ τ') Hb H) : Env K R H0 Hb0 s σ τ Hb H := by
  refine ⟨e.len, e.nb, fun z t ht d => e.nbt z t (List.mem_append_left _ ht) d, ?_⟩
  have q := e.e
  rw [← List.append_assoc] at q
  exact q.weak fun i t' h => .inr (by rw [List.getElem?_append_left (List.getElem?_eq_some_iff.mp h).1]; exact h)
theorem RetOk.low {r : Sl} {v : V} (h : RetOk K R (upd H0 t o) Hb0 c r v Hb H) (h0 : H0 t = none) : RetOk K R H0 Hb0 c r v Hb H :=
  ⟨h.1.low h0, ⟨h.2.1.1.low, h.2.1.2⟩, h.2.2⟩
theorem Env.wrAt {j : Nat} {a : Addr} {d d' : D} {o' : HO} (e : Env K R H0 Hb0 s σ τ Hb H) (hb : s.b = false) (h : τ[j]? = some (.own d, some (.ref a))) (ho : DnO K Hb o' d') : Env K R H0 Hb0 s σ (τ.set j (.own d', some (.ref a))) Hb (upd H a o') := by
  refine ⟨e.len, e.nb, fun z x hx y => ?_, ?_⟩
  · rcases List.mem_or_eq_of_mem_set hx with hx | rfl
    · exact e.nbt z x hx y
    · simp
  · have q := e.e.write (i := (s.Γ.zip σ).length + j) (a := a) (r := .own d) (r' := .own d') (d := d) (d' := d') (by rw [List.getElem?_append_right (by omega)]; simpa using h) (.inl ⟨rfl, rfl, fun j b => borAt_none e hb j b⟩) ho
    rw [List.set_append_right _ _ (by omega), Nat.add_sub_cancel_left] at q
    exact q
theorem Told.back (h : Told K R H0 Hb0 s σ τ Hb H i t T) : Env K R H0 Hb0 s σ τ Hb H := (h.e.low h.h0).popA
theorem Told.at_t (h : Told K R H0 Hb0 s σ τ Hb H i t T) : H t = some (.lst (tvV T)) ∧ σ[i]? = some (some (.ref t)) := by
  refine ⟨h.e.e.keep t _ upd_same h.rt, ?_⟩
  obtain ⟨v, h1, h2, h3⟩ := h.e.slot h.i0 (by simp)
  have : v = .ref t := Dn.ptr' (K := K) (H := Hb) h2
  rw [this] at h1
  exact h1
theorem Told.at_p {j : Nat} {A : List D} {p : Addr} (h : Told K R H0 Hb0 s σ τ Hb H i t T) (hj : T[j]? = some (A, p)) : (τ ++ tvL T)[τ.length + j]? = some (.own (.lst A), some (.ref p)) ∧ ∃ xs, H p = some (.lst xs) ∧ DnL K Hb xs A := by
  have h1 : (τ ++ tvL T)[τ.length + j]? = some (.own (.lst A), some (.ref p)) := by
    rw [List.getElem?_append_right (by omega), Nat.add_sub_cancel_left]
    unfold tvL
    rw [List.getElem?_map, hj]; rfl
  refine ⟨h1, ?_⟩
  have := h.e.e.it ((s.Γ.zip σ).length + (τ.length + j)) _ (by rw [List.getElem?_append_right (by omega), Nat.add_sub_cancel_left]; exact h1)
  obtain ⟨a, o, e1, _, _, _, e5, e6⟩ := this
  cases e1
  cases e6 with
  | lst l => exact ⟨_, e5, l⟩
/-- one of the lists is written -/
theorem Told.wr {j : Nat} {A B : List D} {p : Addr} {ys : List V} (h : Told K R H0 Hb0 s σ τ Hb H i t T) (hb : s.b = false) (hj : T[j]? = some (A, p)) (hy : DnL K Hb ys B) : Told K R H0 Hb0 s σ τ Hb (upd H p (.lst ys)) i t (T.set j (B, p)) := by
  have e := h.e.wrAt hb (h.at_p hj).1 (o' := .lst ys) (d' := .lst B) (.lst hy)
  have e1 : (τ ++ tvL T).set (τ.length + j) (.own (.lst B), some (.ref p)) = τ ++ tvL (T.set j (B, p)) := by
    rw [List.set_append_right _ _ (by omega), Nat.add_sub_cancel_left]
    unfold tvL
    rw [List.map_set]
  have e2 : tvV (T.set j (B, p)) = tvV T := by
    unfold tvV
    rw [List.map_set]
    apply List.ext_getElem?
    intro m
    by_cases z : j = m
    · subst z
      by_cases hl : j < T.length
      · rw [List.getElem?_set_self (by simpa using hl), List.getElem?_map, hj]; rfl
      · rw [List.getElem?_eq_none (by simp; omega), List.getElem?_eq_none (by simp; omega)]
    · rw [List.getElem?_set_ne z]
  rw [e1] at e
  exact ⟨h.i0, h.h0, h.b0, h.rt, by rw [e2]; exact e⟩
/-- read whole -/
theorem Told.dn (h : Told K R H0 Hb0 s σ τ Hb H i t T) : Dn K H (.ref t) (.lst (T.map fun x => .lst x.1)) := by
  refine Dn.lst (SqL.of h.at_t.1) ?_
  have key : ∀ U : TV, (∀ (j : Nat) (A : List D) (p : Addr), U[j]? = some (A, p) → ∃ xs, H p = some (.lst xs) ∧ DnL K Hb xs A) → DnL K H (tvV U) (U.map fun x => .lst x.1) := by
    intro U
    induction U with
    | nil => intro _; exact .nil
    | cons x U ih =>
      intro hU
      obtain ⟨xs, h1, h2⟩ := hU 0 x.1 x.2 rfl
      exact .cons (Dn.lst (SqL.of h1) (DnL.mono h.e.e.subH _ h2)) (ih fun j A p q => hU (j + 1) A p (by simpa using q))
  exact key T fun j A p q => (h.at_p q).2
end
/-! the statements of such a block -/
section
variable {K : PySem.W.Frag} {W : WX} {R : Option Addr} {H0 Hb0 Hb H : Hp} {s : S} {σ : L2.St} {τ : LE} {t : Addr} {i j : Nat} {T : TV} {E : Ends}
/-- told[j].append(e) -/
theorem told_app {te : TE} {f : SE} {A : List D} {p : Addr} {d : D} (he : GoodE K W te f) (h : Told K R H0 Hb0 s σ τ Hb H i t T) (hb : s.b = false) (hj : T[j]? = some (A, p)) (hl : A.length ≤ 1000000) (hf : f s (fun s1 r => s1 = s ∧ imm r = .im d) (fun _ _ => False))
    (k : ∀ Hb' H', Told K R H0 Hb0 s σ τ Hb' H' i t (T.set j (A ++ [d], p)) → E.nx σ H') :
    tDrop (tBM K "list" rAppend (tOp (rIxL K) (tVar i) (tC (.int (j : Int)))) (tCons te tNil)) E σ H := by
  obtain ⟨h1, h2⟩ := h.at_t
  obtain ⟨h3, xs, h4, h5⟩ := h.at_p hj
  have hv : atI (tvV T) (j : Int) = some (.ref p) := atI_nat (by unfold tvV; rw [List.getElem?_map, hj]; rfl)
  refine ⟨_, h2, t, tvV T, (j : Int), .ref p, rfl, rfl, SqL.of h1, hv, .inl ⟨rfl, xs, SqL.of h4⟩, ?_⟩
  refine he R _ Hb0 s σ (τ ++ tvL T) Hb H _ _ _ h.e hf (fun s1 r ⟨q1, q2⟩ v Hb1 H1 e1 b1 r1 => ?_) (fun _ _ z => z.elim)
  subst q1
  obtain ⟨Hb2, e2, r2⟩ := e1.imm r1
  rw [q2] at r2
  have h' : Told K R H0 Hb0 s1 σ τ Hb2 H1 i t T := ⟨h.i0, h.h0, h.b0, h.rt, e2⟩
  obtain ⟨_, ys, h7, h8⟩ := h'.at_p hj
  refine ⟨p, ys, v, rfl, rfl, h7, by rw [h8.length]; exact lt_line_of hl, ?_⟩
  exact k Hb2 _ (h'.wr hb hj (h8.append (.one r2.1)))
/-- told[j].reverse() -/
theorem told_rev {A : List D} {p : Addr} (h : Told K R H0 Hb0 s σ τ Hb H i t T) (hb : s.b = false) (hj : T[j]? = some (A, p))
    (k : ∀ Hb' H', Told K R H0 Hb0 s σ τ Hb' H' i t (T.set j (A.reverse, p)) → E.nx σ H') :
    tDrop (tBM0 K "list" rReverse (tOp (rIxL K) (tVar i) (tC (.int (j : Int))))) E σ H := by
  obtain ⟨h1, h2⟩ := h.at_t
  obtain ⟨h3, xs, h4, h5⟩ := h.at_p hj
  have hv : atI (tvV T) (j : Int) = some (.ref p) := atI_nat (by unfold tvV; rw [List.getElem?_map, hj]; rfl)
  refine ⟨_, h2, t, tvV T, (j : Int), .ref p, rfl, rfl, SqL.of h1, hv, .inl ⟨rfl, xs, SqL.of h4⟩, ?_⟩
  exact ⟨p, xs, rfl, rfl, h4, k Hb _ (h.wr hb hj h5.reverse)⟩
/-- told != due, where both are alike -/
theorem told_ne {t1 t2 : TS} {m : Nat} {ds : List D} (h : Told K R H0 Hb0 s σ τ Hb H i t T) (hm : s.Γ[m]? = some (.own (.lst ds))) (hok : okD (.lst (T.map fun x => .lst x.1))) (hok2 : okD (.lst ds)) (heq : eqD (.lst (T.map fun x => .lst x.1)) (.lst ds) = true) (k : t2 E σ H) :
    tIfS (tTest (tOp (rNeD K) (tVar i) (tVar m))) t1 t2 E σ H := by
  obtain ⟨h1, h2⟩ := h.at_t
  obtain ⟨v, g1, g2, g3⟩ := h.e.slot hm (by simp)
  obtain ⟨a, o, rfl, _, _, _, f5, f6⟩ := g2
  have dn2 : Dn K H (.ref a) (.lst ds) := DnO.dn f5 (f6.mono h.e.e.subH)
  refine ⟨_, h2, _, g1, _, _, Dn.dp _ h.dn (SeqAt.canLay_of_shaped hok), Dn.dp _ dn2 (SeqAt.canLay_of_shaped hok2), hok, hok2, _, rfl, ?_⟩
  have : PyData.eqv (D.py (.lst (T.map fun x => .lst x.1))) (D.py (.lst ds)) = true := heq
  rw [this]
  exact k
/-- told = [a, b, c] -/
theorem told_new {ta tb tc : TE} {fa fb fc : SE} {A B C : List D} (hA : GoodE K W ta fa) (hB : GoodE K W tb fb) (hC : GoodE K W tc fc) (e : Env K R H0 Hb0 s σ τ Hb H) (hb : s.b = false) (hi : i < s.Γ.length)
    (qa : fa s (fun s1 r => s1 = s ∧ r = .own (.lst A)) (fun _ _ => False)) (qb : fb s (fun s1 r => s1 = s ∧ r = .own (.lst B)) (fun _ _ => False)) (qc : fc s (fun s1 r => s1 = s ∧ r = .own (.lst C)) (fun _ _ => False))
    (k : ∀ t p q r Hb' H', Told K R H0 Hb0 { s with Γ := s.Γ.set i (.im (.ptr t)) } (σ.set i (some (.ref t))) τ Hb' H' i t [(A, p), (B, q), (C, r)] → E.nx (σ.set i (some (.ref t))) H') :
    tAsg (tLst (tCons ta (tCons tb (tCons tc tNil)))) (gName i) E σ H := by
  have hx : ∀ τ, XKOk K W R H0 Hb0 σ τ (fun _ _ => False) := fun _ _ _ z => z.elim
  refine hA R H0 Hb0 s σ τ Hb H _ _ _ e qa (fun s1 r ⟨z1, z2⟩ v1 Hb1 H1 e1 b1 r1 => ?_) (hx _)
  subst z1 z2
  refine hB R H0 Hb0 s1 σ _ Hb1 H1 _ _ _ (e1.push r1) qb (fun s2 r ⟨z1, z2⟩ v2 Hb2 H2 e2 b2 r2 => ?_) (hx _)
  subst z1 z2
  refine hC R H0 Hb0 s2 σ _ Hb2 H2 _ _ _ (e2.push r2) qc (fun s3 r ⟨z1, z2⟩ v3 Hb3 H3 e3 b3 r3 => ?_) (hx _)
  subst z1 z2
  have e4 := e3.push r3
  refine ⟨(show (3 : Nat) ≤ sizeLine by decide), fun t ht => ?_⟩
  have g := Grow.new (o := .lst [v1, v2, v3]) e4.e ht
  have hRt := e4.e.rfresh ht
  have hbt := e4.e.bfresh ht
  have h0t := e4.e.h0fresh ht
  have hb0t : Hb0 t = none := by
    cases z : Hb0 t with
    | none => rfl
    | some u => rw [e4.e.bas t u z] at hbt; cases hbt
  have e5 := e4.grow g
  have fresh : ∀ i, ¬ OwnAt (s3.Γ.zip σ ++ (τ ++ [(Sl.own (D.lst A), some v1)] ++ [(Sl.own (D.lst B), some v2)] ++ [(Sl.own (D.lst C), some v3)])) i t := fun i => e4.e.noown ht i
  -- the floor is raised at t
  have e6 : Env K R (upd H0 t (.lst [v1, v2, v3])) Hb0 s3 σ (τ ++ [(Sl.own (D.lst A), some v1)] ++ [(Sl.own (D.lst B), some v2)] ++ [(Sl.own (D.lst C), some v3)]) Hb3 (upd H3 t (.lst [v1, v2, v3])) := by
    refine ⟨e5.len, e5.nb, e5.nbt, ?_⟩
    refine ⟨fun b o q n => ?_, e5.e.bas, fun b o q => ?_, e5.e.sub, e5.e.rng, fun i x q => ?_, e5.e.ap, e5.e.bt⟩
    · by_cases z : b = t
      · subst z; rw [upd_same] at q ⊢; exact q
      · rw [upd_ne z] at q
        exact e5.e.keep b o q n
    · by_cases z : b = t
      · subst z; rw [hbt, hb0t]
      · rw [upd_ne z] at q
        exact e5.e.fr b o q
    · have w := e5.e.it i x q
      obtain ⟨x1, x2⟩ := x
      cases x1 with
      | own d =>
        cases x2 with
        | none => exact w
        | some v =>
          obtain ⟨a, o, rfl, g2, g3, g4, g5⟩ := w
          have : a ≠ t := fun z => fresh i ⟨d, .inl (by rw [← z]; exact q)⟩
          exact ⟨a, o, rfl, g2, g3, by rw [upd_ne this]; exact g4, g5⟩
      | tmp d =>
        cases x2 with
        | none => exact w
        | some v =>
          obtain ⟨a, o, rfl, g2, g3, g4, g5⟩ := w
          have : a ≠ t := fun z => fresh i ⟨d, .inr (by rw [← z]; exact q)⟩
          exact ⟨a, o, rfl, g2, g3, by rw [upd_ne this]; exact g4, g5⟩
      | no => trivial
      | im d => cases x2 <;> exact w
      | bor d => cases x2 <;> exact w
      | rng => cases x2 <;> exact w
  obtain ⟨p, _, rfl, _⟩ := id r1.1
  obtain ⟨q, _, rfl, _⟩ := id r2.1
  obtain ⟨r, _, rfl, _⟩ := id r3.1
  have e7 := e6.put (i := i) (r := .im (.ptr t)) (v := .ref t) (ResOk.im (Dn.ptr t)) (fun d => by simp) (fun d => by simp) hi
  refine k t p q r Hb3 _ ⟨by simp [List.getElem?_set_self hi], h0t, hb0t, hRt, ?_⟩
  simpa [tvL, tvV, List.append_assoc] using e7
end
end DL

/-! ## M86 -/
set_option Elab.async false
set_option linter.all false
set_option autoImplicit false
set_option maxRecDepth 100000
set_option maxHeartbeats 1000000
namespace DL
open PySem L2
/-! ### data of texts, ints, tuples and lists: equality is equality -/
def okN : Nat → D → Bool
  | n, d => match d with
    | .str x => PyData.strOk x
    | .int _ => true
    | .tup ds => match n with
      | 0 => false
      | n + 1 => ds.all (okN n)
    | .lst ds => match n with
      | 0 => false
      | n + 1 => ds.all (okN n)
    | _ => false
theorem okN_mono : ∀ {n m : Nat} {d : D}, n ≤ m → okN n d = true → okN m d = true := by
  intro n
  induction n with
  | zero =>
    intro m d _ h
    cases d <;> unfold okN at h ⊢ <;> simp_all
  | succ n ih =>
    intro m d hm h
    obtain ⟨m, rfl⟩ : ∃ k, m = k + 1 := ⟨m - 1, by omega⟩
    cases d <;> unfold okN at h ⊢ <;> simp_all
    all_goals exact fun x hx => ih hm (h x hx)
theorem lay_all {ds : List D} (h : ∀ d ∈ ds, (D.py d).canLay0 = true) : PyData.canLayAll0 (D.pyL ds) = true := by
  induction ds with
  | nil => rfl
  | cons d ds ih =>
    simp only [D.pyL, PyData.canLayAll0, Bool.and_eq_true]
    exact ⟨h d (by simp), ih fun x hx => h x (by simp [hx])⟩
theorem depth_all {ds : List D} {n : Nat} (h : ∀ d ∈ ds, (D.py d).depth ≤ n) : PyData.depthAll (D.pyL ds) ≤ n := by
  induction ds with
  | nil => simp [D.pyL, PyData.depthAll]
  | cons d ds ih =>
    simp only [D.pyL, PyData.depthAll]
    have := h d (by simp)
    have := ih fun x hx => h x (by simp [hx])
    omega
theorem okN_lay : ∀ {n : Nat} {d : D}, okN n d = true → (D.py d).canLay0 = true ∧ (D.py d).depth ≤ n := by
  intro n
  induction n with
  | zero =>
    intro d h
    cases d <;> unfold okN at h <;> simp_all [D.py, PyData.canLay0, PyData.depth]
  | succ n ih =>
    intro d h
    cases d <;> unfold okN at h <;> simp_all [D.py, PyData.canLay0, PyData.depth]
    · exact ⟨lay_all fun x hx => (ih (h x hx)).1, depth_all fun x hx => (ih (h x hx)).2⟩
    · exact ⟨lay_all fun x hx => (ih (h x hx)).1, depth_all fun x hx => (ih (h x hx)).2⟩
theorem okN_ok {n : Nat} {d : D} (h : okN n d = true) (hn : n ≤ 64 := by decide) : okD d := by
  obtain ⟨h1, h2⟩ := okN_lay h
  unfold okD SeqAt.shaped
  rw [h1, decide_eq_true (show (D.py d).depth ≤ 64 by omega)]
  rfl
theorem eqvAll_iff {ds es : List D} (h : ∀ d ∈ ds, ∀ e ∈ es, (PyData.eqv (D.py d) (D.py e) = true ↔ d = e)) : PyData.eqvAll (D.pyL ds) (D.pyL es) = true ↔ ds = es := by
  induction ds generalizing es with
  | nil => cases es <;> simp [D.pyL, PyData.eqvAll]
  | cons d ds ih =>
    cases es with
    | nil => simp [D.pyL, PyData.eqvAll]
    | cons e es =>
      simp only [D.pyL, PyData.eqvAll, Bool.and_eq_true, List.cons.injEq]
      rw [h d (by simp) e (by simp), ih fun x hx y hy => h x (by simp [hx]) y (by simp [hy])]
theorem eqD_iff : ∀ {n : Nat} {d e : D}, okN n d = true → okN n e = true → (eqD d e = true ↔ d = e) := by
  intro n
  induction n with
  | zero =>
    intro d e h1 h2
    cases d <;> unfold okN at h1 <;> simp at h1 <;> cases e <;> unfold okN at h2 <;> simp at h2 <;> simp [eqD, D.py, PyData.eqv]
  | succ n ih =>
    intro d e h1 h2
    cases d <;> unfold okN at h1 <;> simp at h1 <;> cases e <;> unfold okN at h2 <;> simp at h2 <;> simp [eqD, D.py, PyData.eqv]
    · exact eqvAll_iff fun x hx y hy => ih (h1 x hx) (h2 y hy)
    · exact eqvAll_iff fun x hx y hy => ih (h1 x hx) (h2 y hy)
theorem eqD_self {n : Nat} {d : D} (h : okN n d = true) : eqD d d = true := (eqD_iff h h).mpr rfl
theorem eqD_dec {n : Nat} {d e : D} [Decidable (d = e)] (h1 : okN n d = true) (h2 : okN n e = true) : eqD d e = decide (d = e) := by
  by_cases h : d = e
  · rw [decide_eq_true h, (eqD_iff h1 h2).mpr h]
  · rw [decide_eq_false h]
    cases q : eqD d e with
    | false => rfl
    | true => exact absurd ((eqD_iff h1 h2).mp q) h
theorem anyD {n : Nat} {ds : List D} {d : D} (h1 : okN n d = true) (h2 : ∀ x ∈ ds, okN n x = true) : (ds.any fun z => eqD z d) = true ↔ d ∈ ds := by
  rw [List.any_eq_true]
  constructor
  · rintro ⟨x, hx, q⟩
    rw [(eqD_iff (h2 x hx) h1).mp q] at hx
    exact hx
  · intro h
    exact ⟨d, h, eqD_self h1⟩
end DL

/-! ## K86G -/
set_option Elab.async false
set_option linter.all false
set_option autoImplicit false
set_option maxRecDepth 100000
set_option maxHeartbeats 1000000
namespace K86
open PySem L2 DL
def topS (i : Nat) : Stmt := PySem.Challenge.pw_kingsandcourts_k86_parts_and_places.main.body.getD i (.Pass ⟨0, 0, 0, 0⟩)
/-! ### is_unknown -/
abbrev s_is_unknown : Stmt := topS 4
theorem sc_is_unknown : FnScope ["term"] ["term"] (defScope s_is_unknown) := ⟨rfl, rfl, rfl, by decide +kernel, rfl, by decide +kernel, by decide +kernel⟩
def b_is_unknown : SS := (dRet (dCB oIsi (dCons (dVar 0) (dCons (dC (.ty "str")) dNil))))
theorem w_is_unknown {P : Program} {w : World} {K : PySem.W.Frag} {mg : Str → Option Value} {base : Heap} {f : Addr} {fd : FuncData} {k : Nat} {G : SF} (F : Fun K "is_unknown" "is_unknown" s_is_unknown f fd) (m_str : mg "str" = none) (m_isinstance : mg "isinstance" = none)
    (hG : ∀ c as k kx, as.length = 1 → G c as k kx → b_is_unknown  (endsF k kx) ⟨c, startΓ 1 1 as, false⟩) : FnOk P w K mg base (L2.CX P w) (k + 1) f fd ["term"] (spD K 1 G) := by
  refine fn_D (body := b_is_unknown ) F sc_is_unknown rfl (fun cdv A outer s H E hr tk po => ?_) hG
  exact (ds_one (ds_ret (de_cb call_isi ok_isi m_isinstance PyProof.Rows.boot_isinstance (da_cons (de_var 0) (da_cons (de_ty m_str PyProof.Rows.boot_str) da_nil)))))
/-! ### term_size -/
abbrev s_term_size : Stmt := topS 5
theorem sc_term_size : FnScope ["term", "argument"] ["term"] (defScope s_term_size) := ⟨rfl, rfl, rfl, by decide +kernel, rfl, by decide +kernel, by decide +kernel⟩
def b_term_size (g_is_unknown g_term_size : SF) : SS := (dSeq (dIfS (dTest (dCall 1 g_is_unknown (dCons (dVar 0) dNil))) (dRet (dC (.int 1))) dNext)
    (dRet (dBin oAdd (dC (.int 1)) (dCB oSum (dCons (dLc (dItT (dSl oSlT (dVar 0) (dPart (dC (.int 1))) dNoP)) [1] (gN 1) dTrue (dCall 1 g_term_size (dCons (dVar 1) dNil))) dNil)))))
theorem w_term_size {P : Program} {w : World} {K : PySem.W.Frag} {mg : Str → Option Value} {base : Heap} {f : Addr} {fd : FuncData} {k : Nat} {G : SF} {g_is_unknown g_term_size : SF} (F : Fun K "term_size" "term_size" s_term_size f fd) (c_is_unknown : FnD P w K mg base k "is_unknown" 1 g_is_unknown) (c_term_size : FnD P w K mg base k "term_size" 1 g_term_size) (m_sum : mg "sum" = none)
    (hG : ∀ c as k kx, as.length = 1 → G c as k kx → b_term_size g_is_unknown g_term_size (endsF k kx) ⟨c, startΓ 1 2 as, false⟩) : FnOk P w K mg base (L2.CX P w) (k + 1) f fd ["term"] (spD K 1 G) := by
  refine fn_D (body := b_term_size g_is_unknown g_term_size) F sc_term_size rfl (fun cdv A outer s H E hr tk po => ?_) hG
  exact (ds_cons (ds_if (dt_val (de_call c_is_unknown hr tk (Nat.le_refl _) (da_cons (de_var 0) da_nil))) (ds_one (ds_ret de_int)) ds_nil)
    (ds_one (ds_ret (de_op op_add ok_add de_int (de_cb (cr_sum rfl) ok_sum m_sum PyProof.Rows.boot_sum (da_cons (de_lc [("argument", 1)] rfl sc_term_size.nd (di_tup (de_slc sl_tupA ok_slT (de_var 0) (do_some de_int) do_none)) (blkOk_by (N := ["term", "argument"]) (sc := defScope s_term_size) (by decide +kernel)) (fun _ _ _ _ _ => (pg_name (i := 1) sc_term_size.nd rfl (by first | exact Or.inl rfl | exact Or.inr rfl))) (good_gN 1) (by decide) (fun _ _ _ _ _ => dts_nil) (fun _ _ _ _ _ => (de_call c_term_size hr takes0 (Nat.le_refl _) (da_cons (de_var 1) da_nil)))) da_nil))))))
/-! ### places_of -/
abbrev s_places_of : Stmt := topS 6
theorem sc_places_of : FnScope ["term", "found", "index", "place"] ["term"] (defScope s_places_of) := ⟨rfl, rfl, rfl, by decide +kernel, rfl, by decide +kernel, by decide +kernel⟩
def b_places_of (g_is_unknown g_places_of : SF) : SS := (dSeq (dSet 1 (dLst (dCons (dTup dNil) dNil)))
    (dSeq (dIfS (dNot (dTest (dCall 1 g_is_unknown (dCons (dVar 0) dNil)))) (dFor (dRng2 (dCons (dC (.int 1)) (dCons (dCB oLenA (dCons (dVar 0) dNil)) dNil))) (gN 2) (dFor (dIt (dCall 1 g_places_of (dCons (dBin oIxT (dVar 0) (dVar 2)) dNil))) (gN 3) (dApp 1 (dBin oCatT (dTup (dCons (dBin oSub (dVar 2) (dC (.int 1))) dNil)) (dVar 3))))) dNext)
    (dRet (dMov 1))))
theorem w_places_of {P : Program} {w : World} {K : PySem.W.Frag} {mg : Str → Option Value} {base : Heap} {f : Addr} {fd : FuncData} {k : Nat} {G : SF} {g_is_unknown g_places_of : SF} (F : Fun K "places_of" "places_of" s_places_of f fd) (c_is_unknown : FnD P w K mg base k "is_unknown" 1 g_is_unknown) (c_places_of : FnD P w K mg base k "places_of" 1 g_places_of) (m_len : mg "len" = none) (m_range : mg "range" = none)
    (hG : ∀ c as k kx, as.length = 1 → G c as k kx → b_places_of g_is_unknown g_places_of (endsF k kx) ⟨c, startΓ 1 4 as, false⟩) : FnOk P w K mg base (L2.CX P w) (k + 1) f fd ["term"] (spD K 1 G) := by
  refine fn_D (body := b_places_of g_is_unknown g_places_of) F sc_places_of rfl (fun cdv A outer s H E hr tk po => ?_) hG
  exact (ds_cons (ds_set (i := 1) sc_places_of.nd (de_lst (pe_lst (da_cons (de_tup (pe_tup da_nil)) da_nil))))
    (ds_cons (ds_if (dt_not (dt_val (de_call c_is_unknown hr tk (Nat.le_refl _) (da_cons (de_var 0) da_nil)))) (ds_one (ds_for po (di_rng2 m_range (da_cons de_int (da_cons (de_cb call_len ok_lenA m_len boot_len (da_cons (de_var 0) da_nil)) da_nil))) ((pg_name (i := 2) sc_places_of.nd rfl (by first | exact Or.inl rfl | exact Or.inr rfl))) (good_gN 2) (ds_one (ds_for po (di_list (de_call c_places_of hr tk (Nat.le_refl _) (da_cons (de_ix ix_tup ok_ixT (de_var 0) (de_var 2)) da_nil))) ((pg_name (i := 3) sc_places_of.nd rfl (by first | exact Or.inl rfl | exact Or.inr rfl))) (good_gN 3) (ds_one (ds_app rfl (de_op op_catA ok_catT (de_tup (pe_tup (da_cons (de_op op_sub ok_sub (de_var 2) de_int) da_nil))) (de_var 3)) (ps_expr (pe_bm PySem.F.plainAttrs_list PySem.F.slot_list_append PySem.F.type_list_append mt_append (pv 1) (pa_cons (de_op op_catA ok_catT (de_tup (pe_tup (da_cons (de_op op_sub ok_sub (de_var 2) de_int) da_nil))) (de_var 3)) pa_nil))))))))) ds_nil)
    (ds_one (ds_ret (de_mov 1)))))
/-! ### part_at -/
abbrev s_part_at : Stmt := topS 7
theorem sc_part_at : FnScope ["term", "place", "index"] ["term", "place"] (defScope s_part_at) := ⟨rfl, rfl, rfl, by decide +kernel, rfl, by decide +kernel, by decide +kernel⟩
def b_part_at (g_is_unknown : SF) (C_BadPlace : Addr) : SS := (dSeq (dFor (dItT (dVar 1)) (gN 2) (dSeq (dIfS (dOr (dTest (dCall 1 g_is_unknown (dCons (dVar 0) dNil))) (dNot (dTest (dChain oLe oLt (dC (.int 0)) (dVar 2) (dBin oSub (dCB oLenA (dCons (dVar 0) dNil)) (dC (.int 1))))))) (dRaise C_BadPlace) dNext)
    (dSet 0 (dBin oIxT (dVar 0) (dBin oAdd (dVar 2) (dC (.int 1)))))))
    (dRet (dVar 0)))
theorem w_part_at {P : Program} {w : World} {K : PySem.W.Frag} {mg : Str → Option Value} {base : Heap} {f : Addr} {fd : FuncData} {k : Nat} {G : SF} {g_is_unknown : SF} {C_BadPlace : Addr} (F : Fun K "part_at" "part_at" s_part_at f fd) (c_is_unknown : FnD P w K mg base k "is_unknown" 1 g_is_unknown) (m_len : mg "len" = none) (x_BadPlace : XcC K mg "BadPlace" C_BadPlace)
    (hG : ∀ c as k kx, as.length = 2 → G c as k kx → b_part_at g_is_unknown C_BadPlace (endsF k kx) ⟨c, startΓ 2 3 as, false⟩) : FnOk P w K mg base (L2.CX P w) (k + 1) f fd ["term", "place"] (spD K 2 G) := by
  refine fn_D (body := b_part_at g_is_unknown C_BadPlace) F sc_part_at rfl (fun cdv A outer s H E hr tk po => ?_) hG
  exact (ds_cons (ds_for po (di_tup (de_var 1)) ((pg_name (i := 2) sc_part_at.nd rfl (by first | exact Or.inl rfl | exact Or.inr rfl))) (good_gN 2) (ds_cons (ds_if (PW.pt (dw_or (dt_val (de_call c_is_unknown hr tk (Nat.le_refl _) (da_cons (de_var 0) da_nil))) (dw_or1 (dt_not (dt_chain op_le op_lt ok_le ok_lt de_int (de_var 2) (de_op op_sub ok_sub (de_cb call_len ok_lenA m_len boot_len (da_cons (de_var 0) da_nil)) de_int)))))) (ds_one (ds_raise x_BadPlace tk)) ds_nil)
    (ds_one (ds_set (i := 0) sc_part_at.nd (de_ix ix_tup ok_ixT (de_var 0) (de_op op_add ok_add (de_var 2) de_int))))))
    (ds_one (ds_ret (de_var 0))))
/-! ### replace_at -/
abbrev s_replace_at : Stmt := topS 8
theorem sc_replace_at : FnScope ["term", "place", "part", "index", "changed"] ["term", "place", "part"] (defScope s_replace_at) := ⟨rfl, rfl, rfl, by decide +kernel, rfl, by decide +kernel, by decide +kernel⟩
def b_replace_at (g_is_unknown g_replace_at : SF) (C_BadPlace : Addr) : SS := (dSeq (dIfS (dNot (dTru (dVar 1))) (dRet (dVar 2)) dNext)
    (dSeq (dSet 3 (dBin oIxT (dVar 1) (dC (.int 0))))
    (dSeq (dIfS (dOr (dTest (dCall 1 g_is_unknown (dCons (dVar 0) dNil))) (dNot (dTest (dChain oLe oLt (dC (.int 0)) (dVar 3) (dBin oSub (dCB oLenA (dCons (dVar 0) dNil)) (dC (.int 1))))))) (dRaise C_BadPlace) dNext)
    (dSeq (dSet 4 (dCall 3 g_replace_at (dCons (dBin oIxT (dVar 0) (dBin oAdd (dVar 3) (dC (.int 1)))) (dCons (dSl oSlT (dVar 1) (dPart (dC (.int 1))) dNoP) (dCons (dVar 2) dNil)))))
    (dRet (dBin oCatT (dBin oCatT (dSl oSlT (dVar 0) dNoP (dPart (dBin oAdd (dVar 3) (dC (.int 1))))) (dTup (dCons (dVar 4) dNil))) (dSl oSlT (dVar 0) (dPart (dBin oAdd (dVar 3) (dC (.int 2)))) dNoP)))))))
theorem w_replace_at {P : Program} {w : World} {K : PySem.W.Frag} {mg : Str → Option Value} {base : Heap} {f : Addr} {fd : FuncData} {k : Nat} {G : SF} {g_is_unknown g_replace_at : SF} {C_BadPlace : Addr} (F : Fun K "replace_at" "replace_at" s_replace_at f fd) (c_is_unknown : FnD P w K mg base k "is_unknown" 1 g_is_unknown) (c_replace_at : FnD P w K mg base k "replace_at" 3 g_replace_at) (m_len : mg "len" = none) (x_BadPlace : XcC K mg "BadPlace" C_BadPlace)
    (hG : ∀ c as k kx, as.length = 3 → G c as k kx → b_replace_at g_is_unknown g_replace_at C_BadPlace (endsF k kx) ⟨c, startΓ 3 5 as, false⟩) : FnOk P w K mg base (L2.CX P w) (k + 1) f fd ["term", "place", "part"] (spD K 3 G) := by
  refine fn_D (body := b_replace_at g_is_unknown g_replace_at C_BadPlace) F sc_replace_at rfl (fun cdv A outer s H E hr tk po => ?_) hG
  exact (ds_cons (ds_if (dt_not (dt_tru (de_var 1))) (ds_one (ds_ret (de_var 2))) ds_nil)
    (ds_cons (ds_set (i := 3) sc_replace_at.nd (de_ix ix_tup ok_ixT (de_var 1) de_int))
    (ds_cons (ds_if (PW.pt (dw_or (dt_val (de_call c_is_unknown hr tk (Nat.le_refl _) (da_cons (de_var 0) da_nil))) (dw_or1 (dt_not (dt_chain op_le op_lt ok_le ok_lt de_int (de_var 3) (de_op op_sub ok_sub (de_cb call_len ok_lenA m_len boot_len (da_cons (de_var 0) da_nil)) de_int)))))) (ds_one (ds_raise x_BadPlace tk)) ds_nil)
    (ds_cons (ds_set (i := 4) sc_replace_at.nd (de_call c_replace_at hr tk (Nat.le_refl _) (da_cons (de_ix ix_tup ok_ixT (de_var 0) (de_op op_add ok_add (de_var 3) de_int)) (da_cons (de_slc sl_tupA ok_slT (de_var 1) (do_some de_int) do_none) (da_cons (de_var 2) da_nil)))))
    (ds_one (ds_ret (de_op op_catA ok_catT (de_op op_catA ok_catT (de_slc sl_tupA ok_slT (de_var 0) do_none (do_some (de_op op_add ok_add (de_var 3) de_int))) (de_tup (pe_tup (da_cons (de_var 4) da_nil)))) (de_slc sl_tupA ok_slT (de_var 0) (do_some (de_op op_add ok_add (de_var 3) de_int)) do_none))))))))
/-! ### parts_of -/
abbrev s_parts_of : Stmt := topS 9
theorem sc_parts_of : FnScope ["term", "found", "place", "part"] ["term"] (defScope s_parts_of) := ⟨rfl, rfl, rfl, by decide +kernel, rfl, by decide +kernel, by decide +kernel⟩
def b_parts_of (g_places_of g_part_at : SF) : SS := (dSeq (dSet 1 (dLst dNil))
    (dSeq (dFor (dIt (dCall 1 g_places_of (dCons (dVar 0) dNil))) (gN 2) (dSeq (dSet 3 (dCall 2 g_part_at (dCons (dVar 0) (dCons (dVar 2) dNil))))
    (dIfS (dTest (dBin oNotIn (dVar 3) (dVar 1))) (dApp 1 (dVar 3)) dNext)))
    (dRet (dMov 1))))
theorem w_parts_of {P : Program} {w : World} {K : PySem.W.Frag} {mg : Str → Option Value} {base : Heap} {f : Addr} {fd : FuncData} {k : Nat} {G : SF} {g_places_of g_part_at : SF} (F : Fun K "parts_of" "parts_of" s_parts_of f fd) (c_places_of : FnD P w K mg base k "places_of" 1 g_places_of) (c_part_at : FnD P w K mg base k "part_at" 2 g_part_at)
    (hG : ∀ c as k kx, as.length = 1 → G c as k kx → b_parts_of g_places_of g_part_at (endsF k kx) ⟨c, startΓ 1 4 as, false⟩) : FnOk P w K mg base (L2.CX P w) (k + 1) f fd ["term"] (spD K 1 G) := by
  refine fn_D (body := b_parts_of g_places_of g_part_at) F sc_parts_of rfl (fun cdv A outer s H E hr tk po => ?_) hG
  exact (ds_cons (ds_set (i := 1) sc_parts_of.nd (de_lst (pe_lst da_nil)))
    (ds_cons (ds_for po (di_list (de_call c_places_of hr tk (Nat.le_refl _) (da_cons (de_var 0) da_nil))) ((pg_name (i := 2) sc_parts_of.nd rfl (by first | exact Or.inl rfl | exact Or.inr rfl))) (good_gN 2) (ds_cons (ds_set (i := 3) sc_parts_of.nd (de_call c_part_at hr tk (Nat.le_refl _) (da_cons (de_var 0) (da_cons (de_var 2) da_nil))))
    (ds_one (ds_if (dt_cmp (op_notInD (room65 hr)) ok_notIn (de_var 3) (de_var 1)) (ds_one (ds_app rfl (de_var 3) (ps_expr (pe_bm PySem.F.plainAttrs_list PySem.F.slot_list_append PySem.F.type_list_append mt_append (pv 1) (pa_cons (de_var 3) pa_nil))))) ds_nil))))
    (ds_one (ds_ret (de_mov 1)))))
/-! ### unknowns_of -/
abbrev s_unknowns_of : Stmt := topS 10
theorem sc_unknowns_of : FnScope ["term", "found", "argument", "name"] ["term"] (defScope s_unknowns_of) := ⟨rfl, rfl, rfl, by decide +kernel, rfl, by decide +kernel, by decide +kernel⟩
def b_unknowns_of (g_is_unknown g_unknowns_of : SF) : SS := (dSeq (dIfS (dTest (dCall 1 g_is_unknown (dCons (dVar 0) dNil))) (dRet (dLst (dCons (dVar 0) dNil))) dNext)
    (dSeq (dSet 1 (dLst dNil))
    (dSeq (dFor (dItT (dSl oSlT (dVar 0) (dPart (dC (.int 1))) dNoP)) (gN 2) (dFor (dIt (dCall 1 g_unknowns_of (dCons (dVar 2) dNil))) (gN 3) (dIfS (dTest (dBin oNotIn (dVar 3) (dVar 1))) (dApp 1 (dVar 3)) dNext)))
    (dRet (dMov 1)))))
theorem w_unknowns_of {P : Program} {w : World} {K : PySem.W.Frag} {mg : Str → Option Value} {base : Heap} {f : Addr} {fd : FuncData} {k : Nat} {G : SF} {g_is_unknown g_unknowns_of : SF} (F : Fun K "unknowns_of" "unknowns_of" s_unknowns_of f fd) (c_is_unknown : FnD P w K mg base k "is_unknown" 1 g_is_unknown) (c_unknowns_of : FnD P w K mg base k "unknowns_of" 1 g_unknowns_of)
    (hG : ∀ c as k kx, as.length = 1 → G c as k kx → b_unknowns_of g_is_unknown g_unknowns_of (endsF k kx) ⟨c, startΓ 1 4 as, false⟩) : FnOk P w K mg base (L2.CX P w) (k + 1) f fd ["term"] (spD K 1 G) := by
  refine fn_D (body := b_unknowns_of g_is_unknown g_unknowns_of) F sc_unknowns_of rfl (fun cdv A outer s H E hr tk po => ?_) hG
  exact (ds_cons (ds_if (dt_val (de_call c_is_unknown hr tk (Nat.le_refl _) (da_cons (de_var 0) da_nil))) (ds_one (ds_ret (de_lst (pe_lst (da_cons (de_var 0) da_nil))))) ds_nil)
    (ds_cons (ds_set (i := 1) sc_unknowns_of.nd (de_lst (pe_lst da_nil)))
    (ds_cons (ds_for po (di_tup (de_slc sl_tupA ok_slT (de_var 0) (do_some de_int) do_none)) ((pg_name (i := 2) sc_unknowns_of.nd rfl (by first | exact Or.inl rfl | exact Or.inr rfl))) (good_gN 2) (ds_one (ds_for po (di_list (de_call c_unknowns_of hr tk (Nat.le_refl _) (da_cons (de_var 2) da_nil))) ((pg_name (i := 3) sc_unknowns_of.nd rfl (by first | exact Or.inl rfl | exact Or.inr rfl))) (good_gN 3) (ds_one (ds_if (dt_cmp (op_notInD (room65 hr)) ok_notIn (de_var 3) (de_var 1)) (ds_one (ds_app rfl (de_var 3) (ps_expr (pe_bm PySem.F.plainAttrs_list PySem.F.slot_list_append PySem.F.type_list_append mt_append (pv 1) (pa_cons (de_var 3) pa_nil))))) ds_nil)))))
    (ds_one (ds_ret (de_mov 1))))))
/-! ### _law_start -/
abbrev s_law_start : Stmt := topS 12
theorem sc_law_start : FnScope ["script", "row", "seed", "k", "cell", "j", "mixed"] ["script"] (defScope s_law_start) := ⟨rfl, rfl, rfl, by decide +kernel, rfl, by decide +kernel, by decide +kernel⟩
def b_law_start : SS := (dSeq (dSet 1 (dLst dNil))
    (dSeq (dSet 2 (dC (.int 17)))
    (dSeq (dFor (dRng1 (dCons (dCB oLenA (dCons (dVar 0) dNil)) dNil)) (gN 3) (dSeq (dSet 4 (dCB oAbs (dCons (dBin oIxL (dVar 0) (dVar 3)) dNil)))
    (dSeq (dSet 2 (dBin oMod (dCB oInt1 (dCons (dBin oAdd (dBin oAdd (dBin oMul (dVar 2) (dC (.int 31))) (dVar 4)) (dVar 3)) dNil)) (dC (.int 2147483647))))
    (dIfS (dTest (dBin oGe (dVar 4) (dBin oPow (dC (.int 10)) (dC (.int 18))))) (dSeq (dSet 4 (dBin oSub (dVar 4) (dBin oPow (dC (.int 10)) (dC (.int 18)))))
    (dFor (dRng1 (dCons (dC (.int 60)) dNil)) (gN 5) (dIfS (dTest (dBin oGt (dVar 4) (dC (.int 0)))) (dSeq (dApp 1 (dBin oMod (dCB oInt1 (dCons (dVar 4) dNil)) (dC (.int 840))))
    (dSet 4 (dBin oFdiv (dVar 4) (dC (.int 840))))) dNext))) (dSeq (dSet 6 (dBin oMod (dCB oInt1 (dCons (dBin oAdd (dBin oMul (dBin oAdd (dVar 4) (dC (.int 1))) (dC (.int 48271))) (dBin oMul (dVar 3) (dC (.int 69621)))) dNil)) (dC (.int 2147483647))))
    (dSeq (dSet 6 (dBin oMod (dCB oInt1 (dCons (dBin oAdd (dBin oMul (dVar 6) (dC (.int 40692))) (dC (.int 5))) dNil)) (dC (.int 2147483399))))
    (dApp 1 (dBin oMod (dBin oFdiv (dVar 6) (dC (.int 13))) (dC (.int 840))))))))))
    (dRet (dLst (dCons (dFrz 1) (dCons (dC (.int 0)) (dCons (dVar 2) dNil))))))))
theorem w_law_start {P : Program} {w : World} {K : PySem.W.Frag} {mg : Str → Option Value} {base : Heap} {f : Addr} {fd : FuncData} {k : Nat} {G : SF} (F : Fun K "_law_start" "_law_start" s_law_start f fd) (m_len : mg "len" = none) (m_range : mg "range" = none) (m_abs : mg "abs" = none) (m_int : mg "int" = none)
    (hG : ∀ c as k kx, as.length = 1 → G c as k kx → b_law_start  (endsF k kx) ⟨c, startΓ 1 7 as, false⟩) : FnOk P w K mg base (L2.CX P w) (k + 1) f fd ["script"] (spD K 1 G) := by
  refine fn_D (body := b_law_start ) F sc_law_start rfl (fun cdv A outer s H E hr tk po => ?_) hG
  exact (ds_cons (ds_set (i := 1) sc_law_start.nd (de_lst (pe_lst da_nil)))
    (ds_cons (ds_set (i := 2) sc_law_start.nd de_int)
    (ds_cons (ds_for po (di_rng1 m_range (da_cons (de_cb call_len ok_lenA m_len boot_len (da_cons (de_var 0) da_nil)) da_nil)) ((pg_name (i := 3) sc_law_start.nd rfl (by first | exact Or.inl rfl | exact Or.inr rfl))) (good_gN 3) (ds_cons (ds_set (i := 4) sc_law_start.nd (de_cb call_abs ok_abs m_abs PyProof.Rows.boot_abs (da_cons (de_ix ix_list ok_ixL (de_var 0) (de_var 3)) da_nil)))
    (ds_cons (ds_set (i := 2) sc_law_start.nd (de_op op_mod ok_mod (de_cty call_int1 ok_int1 m_int PyProof.Rows.boot_int (da_cons (de_op op_add ok_add (de_op op_add ok_add (de_op op_mul ok_mul (de_var 2) de_int) (de_var 4)) (de_var 3)) da_nil)) de_int))
    (ds_one (ds_if (dt_cmp op_ge ok_ge (de_var 4) (de_op op_pow ok_pow de_int de_int)) (ds_cons (ds_set (i := 4) sc_law_start.nd (de_op op_sub ok_sub (de_var 4) (de_op op_pow ok_pow de_int de_int)))
    (ds_one (ds_for po (di_rng1 m_range (da_cons de_int da_nil)) ((pg_name (i := 5) sc_law_start.nd rfl (by first | exact Or.inl rfl | exact Or.inr rfl))) (good_gN 5) (ds_one (ds_if (dt_cmp op_gt ok_gt (de_var 4) de_int) (ds_cons (ds_app rfl (de_op op_mod ok_mod (de_cty call_int1 ok_int1 m_int PyProof.Rows.boot_int (da_cons (de_var 4) da_nil)) de_int) (ps_expr (pe_bm PySem.F.plainAttrs_list PySem.F.slot_list_append PySem.F.type_list_append mt_append (pv 1) (pa_cons (de_op op_mod ok_mod (de_cty call_int1 ok_int1 m_int PyProof.Rows.boot_int (da_cons (de_var 4) da_nil)) de_int) pa_nil))))
    (ds_one (ds_set (i := 4) sc_law_start.nd (de_op op_fdiv ok_fdiv (de_var 4) de_int)))) ds_nil))))) (ds_cons (ds_set (i := 6) sc_law_start.nd (de_op op_mod ok_mod (de_cty call_int1 ok_int1 m_int PyProof.Rows.boot_int (da_cons (de_op op_add ok_add (de_op op_mul ok_mul (de_op op_add ok_add (de_var 4) de_int) de_int) (de_op op_mul ok_mul (de_var 3) de_int)) da_nil)) de_int))
    (ds_cons (ds_set (i := 6) sc_law_start.nd (de_op op_mod ok_mod (de_cty call_int1 ok_int1 m_int PyProof.Rows.boot_int (da_cons (de_op op_add ok_add (de_op op_mul ok_mul (de_var 6) de_int) de_int) da_nil)) de_int))
    (ds_one (ds_app rfl (de_op op_mod ok_mod (de_op op_fdiv ok_fdiv (de_var 6) de_int) de_int) (ps_expr (pe_bm PySem.F.plainAttrs_list PySem.F.slot_list_append PySem.F.type_list_append mt_append (pv 1) (pa_cons (de_op op_mod ok_mod (de_op op_fdiv ok_fdiv (de_var 6) de_int) de_int) pa_nil))))))))))))
    (ds_one (ds_ret (de_lst (pe_lst (da_cons (de_frz 1) (da_cons de_int (da_cons (de_var 2) da_nil))))))))))
abbrev s_law_take : Stmt := topS 13
theorem sc_law_take : FnScope ["state", "many", "at", "mixed"] ["state", "many"] (defScope s_law_take) := ⟨rfl, rfl, rfl, by decide +kernel, rfl, by decide +kernel, by decide +kernel⟩
theorem w_law_take {P : Program} {w : World} {K : PySem.W.Frag} {mg : Str → Option Value} {base : Heap} {f : Addr} {fd : FuncData} {k : Nat} (F : Fun K "_law_take" "_law_take" s_law_take f fd) (m_len : mg "len" = none) (m_int : mg "int" = none) :
    FnOk P w K mg base (L2.CX P w) (k + 1) f fd ["state", "many"] (spD K 2 gTake) := by
  refine F.okX sc_law_take (fun vs H Q E h => h.1) (fun cdv A outer s H vs Q E hr h => ⟨_, PSs.nox (pss_cons (ps_set (i := 2) sc_law_take.nd rfl (.inl rfl) (pe_ix ix_list (pv 0) pe_int (fun _ _ => rfl)))
    (pss_cons (ps_asg (pe_op op_add (pv 2) pe_int) (pg_sub (pv 0) pe_int set_list))
    (pss_cons (ps_if (pt_cmpR op_lt (pv 2) (pe_callB call_len_seq (by rfl) m_len boot_len (pa_cons (pe_ix ix_list (pv 0) pe_int (fun _ _ => rfl)) pa_nil)) (nomark _))
      (pss_one (ps_ret (pe_op op_mod (pe_callTy call_int1 (by rfl) m_int PyProof.Rows.boot_int (pa_cons (pe_ix ix_list (pe_ix ix_list (pv 0) pe_int (fun _ _ => rfl)) (pv 2) (fun _ _ => rfl)) pa_nil)) (pv 1)))) pss_nil)
    (pss_cons (ps_set (i := 3) sc_law_take.nd rfl (.inl rfl) (pe_op op_mod (pe_callTy call_int1 (by rfl) m_int PyProof.Rows.boot_int (pa_cons (pe_op op_mul (pe_op op_add (pe_ix ix_list (pv 0) pe_int (fun _ _ => rfl)) (pe_op op_mul (pv 2) pe_int)) pe_int) pa_nil)) pe_int))
    (pss_cons (ps_set (i := 3) sc_law_take.nd rfl (.inl rfl) (pe_op op_mod (pe_callTy call_int1 (by rfl) m_int PyProof.Rows.boot_int (pa_cons (pe_op op_add (pe_op op_mul (pv 3) pe_int) (pe_op op_mul (pv 2) (pv 2))) pa_nil)) pe_int))
    (pss_one (ps_ret (pe_op op_mod (pe_op op_fdiv (pv 3) pe_int) (pv 1))))))))), ?_⟩)
  obtain ⟨hl, R, Hb, c, as, k', kx, e, ha, him, ⟨m, rfl, hm, hc, hk⟩, hq, hx⟩ := h
  obtain ⟨v0, v1, rfl, h0, h1⟩ := args2 ha
  obtain ⟨a, rfl, rfl⟩ := h0
  have h1 := SlOk.int h1
  subst h1
  obtain ⟨rr, ns, sd, e1, e2, e3, e4, e5, e6⟩ := e.rng a rfl
  have fin : ∀ r : Int, 0 ≤ r → r < m → Q (.int r) (upd H a (.lst [.ref rr, .int ((c : Int) + 1), .int sd])) := fun r r0 r1 =>
    hq (c + 1) _ (hk r r0 r1) (.int r) Hb _ ⟨e.drawn e1, ResOk.im (Dn.int r), fun d => by simp, fun d => by simp⟩
  have eL : SqL K (upd H a (.lst [.ref rr, .int ((c : Int) + 1), .int sd])) a [.ref rr, .int ((c : Int) + 1), .int sd] := SqL.of upd_same
  have eR : SqL K (upd H a (.lst [.ref rr, .int ((c : Int) + 1), .int sd])) rr (ns.map V.int) := (e.drawn e1).subH.sqL e2
  -- at = state[1]; state[1] = at + 1
  refine ⟨_, rfl, a, _, 1, .int c, rfl, rfl, SqL.of e1, atI_nat (j := 1) rfl, ?_⟩
  refine ⟨_, rfl, _, _, rfl, rfl, _, rfl, a, _, 1, 1, rfl, rfl, e1, rfl, ?_⟩
  -- if at < len(state[0])
  refine ⟨_, rfl, _, rfl, a, _, 0, .ref rr, rfl, rfl, eL, atI_nat (j := 0) rfl, rr, _, rfl, .inl eR, _, _, rfl, rfl, _, rfl, ite2 (fun q => ?_) (fun _ => ?_)⟩
  · have q' : (c : Int) < ((ns.map V.int).length : Int) := of_decide_eq_true q
    rw [List.length_map] at q'
    have hcl : c < ns.length := by omega
    refine ⟨_, rfl, a, _, 0, .ref rr, rfl, rfl, eL, atI_nat (j := 0) rfl, _, rfl, rr, _, c, .int ns[c], rfl, rfl, eR, atI_nat (j := c) (by rw [List.getElem?_map, List.getElem?_eq_getElem hcl]; rfl), .inl ⟨_, rfl, ?_⟩⟩
    refine ⟨_, rfl, _, _, rfl, rfl, hm, ?_⟩
    exact fin _ (Int.emod_nonneg _ (by omega)) (Int.emod_lt_of_pos _ hm)
  · refine ⟨_, rfl, a, _, 2, .int sd, rfl, rfl, eL, atI_nat (j := 2) rfl, _, rfl, _, _, rfl, rfl, .inl ⟨by omega, by omega⟩, _, _, rfl, rfl, _, _, rfl, rfl, .inr ⟨by decide, by decide⟩, .inl ⟨_, rfl, _, _, rfl, rfl, (by show (0 : Int) < 2147483647; decide), ?_⟩⟩
    refine ⟨_, rfl, _, _, rfl, rfl, .inr ⟨by decide, by decide⟩, _, rfl, _, rfl, _, _, rfl, rfl, .inl ⟨by omega, by omega⟩, _, _, rfl, rfl, .inl ⟨_, rfl, _, _, rfl, rfl, (by show (0 : Int) < 2147483629; decide), ?_⟩⟩
    refine ⟨_, rfl, _, _, rfl, rfl, (by show (0 : Int) < 11 ∧ (11 : Int) < 1073741824; decide), _, rfl, _, _, rfl, rfl, hm, ?_⟩
    exact fin _ (Int.emod_nonneg _ (by omega)) (Int.emod_lt_of_pos _ hm)

/-! ### _law_term -/
abbrev s_law_term : Stmt := topS 14
theorem sc_law_term : FnScope ["state", "depth", "kind", "leaves"] ["state", "depth"] (defScope s_law_term) := ⟨rfl, rfl, rfl, by decide +kernel, rfl, by decide +kernel, by decide +kernel⟩
def b_law_term (g__law_take g__law_term : SF) : SS := (dSeq (dSet 2 (dCall 2 g__law_take (dCons (dVar 0) (dCons (dC (.int 8)) dNil))))
    (dSeq (dIfS (dOr (dTest (dBin oEqS (dVar 1) (dC (.int 0)))) (dTest (dBin oLt (dVar 2) (dC (.int 3))))) (dSeq (dSet 3 (dLst (dCons (dC (.str "x")) (dCons (dC (.str "y")) (dCons (dC (.str "z9")) (dCons (dTup (dCons (dC (.str "a")) dNil)) (dCons (dTup (dCons (dC (.str "b")) dNil)) (dCons (dTup (dCons (dC (.str "longname12")) dNil)) dNil))))))))
    (dRet (dBin oIxL (dVar 3) (dCall 2 g__law_take (dCons (dVar 0) (dCons (dC (.int 6)) dNil)))))) dNext)
    (dSeq (dIfS (dTest (dBin oLt (dVar 2) (dC (.int 5)))) (dRet (dTup (dCons (dC (.str "f")) (dCons (dCall 2 g__law_term (dCons (dVar 0) (dCons (dBin oSub (dVar 1) (dC (.int 1))) dNil))) dNil)))) dNext)
    (dSeq (dIfS (dTest (dBin oLt (dVar 2) (dC (.int 7)))) (dRet (dTup (dCons (dC (.str "g")) (dCons (dCall 2 g__law_term (dCons (dVar 0) (dCons (dBin oSub (dVar 1) (dC (.int 1))) dNil))) (dCons (dCall 2 g__law_term (dCons (dVar 0) (dCons (dBin oSub (dVar 1) (dC (.int 1))) dNil))) dNil))))) dNext)
    (dRet (dTup (dCons (dC (.str "h2")) (dCons (dCall 2 g__law_term (dCons (dVar 0) (dCons (dBin oSub (dVar 1) (dC (.int 1))) dNil))) (dCons (dCall 2 g__law_term (dCons (dVar 0) (dCons (dBin oSub (dVar 1) (dC (.int 1))) dNil))) (dCons (dCall 2 g__law_term (dCons (dVar 0) (dCons (dBin oSub (dVar 1) (dC (.int 1))) dNil))) dNil))))))))))
theorem w_law_term {P : Program} {w : World} {K : PySem.W.Frag} {mg : Str → Option Value} {base : Heap} {f : Addr} {fd : FuncData} {k : Nat} {G : SF} {g__law_take g__law_term : SF} (F : Fun K "_law_term" "_law_term" s_law_term f fd) (c__law_take : FnD P w K mg base k "_law_take" 2 g__law_take) (c__law_term : FnD P w K mg base k "_law_term" 2 g__law_term)
    (hG : ∀ c as k kx, as.length = 2 → G c as k kx → b_law_term g__law_take g__law_term (endsF k kx) ⟨c, startΓ 2 4 as, false⟩) : FnOk P w K mg base (L2.CX P w) (k + 1) f fd ["state", "depth"] (spD K 2 G) := by
  refine fn_D (body := b_law_term g__law_take g__law_term) F sc_law_term rfl (fun cdv A outer s H E hr tk po => ?_) hG
  exact (ds_cons (ds_set (i := 2) sc_law_term.nd (de_call c__law_take hr tk (Nat.le_refl _) (da_cons (de_var 0) (da_cons de_int da_nil))))
    (ds_cons (ds_if (PW.pt (dw_or (dt_cmp op_eq ok_eqS (de_var 1) de_int) (dw_or1 (dt_cmp op_lt ok_lt (de_var 2) de_int)))) (ds_cons (ds_set (i := 3) sc_law_term.nd (de_lst (pe_lst (da_cons de_str (da_cons de_str (da_cons de_str (da_cons (de_tup (pe_tup (da_cons de_str da_nil))) (da_cons (de_tup (pe_tup (da_cons de_str da_nil))) (da_cons (de_tup (pe_tup (da_cons de_str da_nil))) da_nil)))))))))
    (ds_one (ds_ret (de_ix ix_list ok_ixL (de_var 3) (de_call c__law_take hr tk (Nat.le_refl _) (da_cons (de_var 0) (da_cons de_int da_nil))))))) ds_nil)
    (ds_cons (ds_if (dt_cmp op_lt ok_lt (de_var 2) de_int) (ds_one (ds_ret (de_tup (pe_tup (da_cons de_str (da_cons (de_call c__law_term hr tk (Nat.le_refl _) (da_cons (de_var 0) (da_cons (de_op op_sub ok_sub (de_var 1) de_int) da_nil))) da_nil)))))) ds_nil)
    (ds_cons (ds_if (dt_cmp op_lt ok_lt (de_var 2) de_int) (ds_one (ds_ret (de_tup (pe_tup (da_cons de_str (da_cons (de_call c__law_term hr tk (Nat.le_refl _) (da_cons (de_var 0) (da_cons (de_op op_sub ok_sub (de_var 1) de_int) da_nil))) (da_cons (de_call c__law_term hr tk (Nat.le_refl _) (da_cons (de_var 0) (da_cons (de_op op_sub ok_sub (de_var 1) de_int) da_nil))) da_nil))))))) ds_nil)
    (ds_one (ds_ret (de_tup (pe_tup (da_cons de_str (da_cons (de_call c__law_term hr tk (Nat.le_refl _) (da_cons (de_var 0) (da_cons (de_op op_sub ok_sub (de_var 1) de_int) da_nil))) (da_cons (de_call c__law_term hr tk (Nat.le_refl _) (da_cons (de_var 0) (da_cons (de_op op_sub ok_sub (de_var 1) de_int) da_nil))) (da_cons (de_call c__law_term hr tk (Nat.le_refl _) (da_cons (de_var 0) (da_cons (de_op op_sub ok_sub (de_var 1) de_int) da_nil))) da_nil))))))))))))
/-! ### _law_atom -/
abbrev s_law_atom : Stmt := topS 15
theorem sc_law_atom : FnScope ["state", "many", "names", "k"] ["state"] (defScope s_law_atom) := ⟨rfl, rfl, rfl, by decide +kernel, rfl, by decide +kernel, by decide +kernel⟩
def b_law_atom (g__law_take g__law_term : SF) : SS := (dSeq (dSet 1 (dCall 2 g__law_take (dCons (dVar 0) (dCons (dC (.int 4)) dNil))))
    (dSeq (dSet 2 (dLst (dCons (dC (.str "Q")) (dCons (dC (.str "P")) (dCons (dC (.str "R12")) (dCons (dC (.str "Longname123A")) dNil))))))
    (dRet (dCB oTuple (dCons (dBinK oCatH (dLst (dCons (dBin oIxL (dVar 2) (dVar 1)) dNil)) (dLc (dRng1 (dCons (dVar 1) dNil)) [3] (gN 3) dTrue (dCall 2 g__law_term (dCons (dVar 0) (dCons (dC (.int 3)) dNil))))) dNil)))))
theorem w_law_atom {P : Program} {w : World} {K : PySem.W.Frag} {mg : Str → Option Value} {base : Heap} {f : Addr} {fd : FuncData} {k : Nat} {G : SF} {g__law_take g__law_term : SF} (F : Fun K "_law_atom" "_law_atom" s_law_atom f fd) (c__law_take : FnD P w K mg base k "_law_take" 2 g__law_take) (c__law_term : FnD P w K mg base k "_law_term" 2 g__law_term) (m_range : mg "range" = none) (m_tuple : mg "tuple" = none)
    (hG : ∀ c as k kx, as.length = 1 → G c as k kx → b_law_atom g__law_take g__law_term (endsF k kx) ⟨c, startΓ 1 4 as, false⟩) : FnOk P w K mg base (L2.CX P w) (k + 1) f fd ["state"] (spD K 1 G) := by
  refine fn_D (body := b_law_atom g__law_take g__law_term) F sc_law_atom rfl (fun cdv A outer s H E hr tk po => ?_) hG
  exact (ds_cons (ds_set (i := 1) sc_law_atom.nd (de_call c__law_take hr tk (Nat.le_refl _) (da_cons (de_var 0) (da_cons de_int da_nil))))
    (ds_cons (ds_set (i := 2) sc_law_atom.nd (de_lst (pe_lst (da_cons de_str (da_cons de_str (da_cons de_str (da_cons de_str da_nil)))))))
    (ds_one (ds_ret (de_cty call_tuple_of ok_tuple m_tuple PyProof.Rows.boot_tuple (da_cons (de_opK op_cat ok_catH (de_lst (pe_lst (da_cons (de_ix ix_list ok_ixL (de_var 2) (de_var 1)) da_nil))) (de_lc [("k", 3)] rfl sc_law_atom.nd (di_rng1 m_range (da_cons (de_var 1) da_nil)) (blkOk_by (N := ["state", "many", "names", "k"]) (sc := defScope s_law_atom) (by decide +kernel)) (fun _ _ _ _ _ => (pg_name (i := 3) sc_law_atom.nd rfl (by first | exact Or.inl rfl | exact Or.inr rfl))) (good_gN 3) (by decide) (fun _ _ _ _ _ => dts_nil) (fun _ _ _ _ _ => (de_call c__law_term hr takes0 (Nat.le_refl _) (da_cons (de_var 0) (da_cons de_int da_nil)))))) da_nil))))))
/-! ### _law_places -/
abbrev s_law_places : Stmt := topS 16
theorem sc_law_places : FnScope ["term", "places", "k", "place"] ["term"] (defScope s_law_places) := ⟨rfl, rfl, rfl, by decide +kernel, rfl, by decide +kernel, by decide +kernel⟩
def b_law_places (g__law_places : SF) : SS := (dSeq (dSet 1 (dLst (dCons (dTup dNil) dNil)))
    (dSeq (dIfS (dNot (dTest (dCB oIsi (dCons (dVar 0) (dCons (dC (.ty "str")) dNil))))) (dFor (dRng2 (dCons (dC (.int 1)) (dCons (dCB oLenA (dCons (dVar 0) dNil)) dNil))) (gN 2) (dSet 1 (dBinK oCatH (dVar 1) (dLc (dIt (dCall 1 g__law_places (dCons (dBin oIxT (dVar 0) (dVar 2)) dNil))) [3] (gN 3) dTrue (dBin oCatT (dTup (dCons (dBin oSub (dVar 2) (dC (.int 1))) dNil)) (dVar 3)))))) dNext)
    (dRet (dMov 1))))
theorem w_law_places {P : Program} {w : World} {K : PySem.W.Frag} {mg : Str → Option Value} {base : Heap} {f : Addr} {fd : FuncData} {k : Nat} {G : SF} {g__law_places : SF} (F : Fun K "_law_places" "_law_places" s_law_places f fd) (c__law_places : FnD P w K mg base k "_law_places" 1 g__law_places) (m_str : mg "str" = none) (m_isinstance : mg "isinstance" = none) (m_len : mg "len" = none) (m_range : mg "range" = none)
    (hG : ∀ c as k kx, as.length = 1 → G c as k kx → b_law_places g__law_places (endsF k kx) ⟨c, startΓ 1 4 as, false⟩) : FnOk P w K mg base (L2.CX P w) (k + 1) f fd ["term"] (spD K 1 G) := by
  refine fn_D (body := b_law_places g__law_places) F sc_law_places rfl (fun cdv A outer s H E hr tk po => ?_) hG
  exact (ds_cons (ds_set (i := 1) sc_law_places.nd (de_lst (pe_lst (da_cons (de_tup (pe_tup da_nil)) da_nil))))
    (ds_cons (ds_if (dt_not (dt_val (de_cb call_isi ok_isi m_isinstance PyProof.Rows.boot_isinstance (da_cons (de_var 0) (da_cons (de_ty m_str PyProof.Rows.boot_str) da_nil))))) (ds_one (ds_for po (di_rng2 m_range (da_cons de_int (da_cons (de_cb call_len ok_lenA m_len boot_len (da_cons (de_var 0) da_nil)) da_nil))) ((pg_name (i := 2) sc_law_places.nd rfl (by first | exact Or.inl rfl | exact Or.inr rfl))) (good_gN 2) (ds_one (ds_set (i := 1) sc_law_places.nd (de_opK op_cat ok_catH (de_var 1) (de_lc [("place", 3)] rfl sc_law_places.nd (di_list (de_call c__law_places hr tk (Nat.le_refl _) (da_cons (de_ix ix_tup ok_ixT (de_var 0) (de_var 2)) da_nil))) (blkOk_by (N := ["term", "places", "k", "place"]) (sc := defScope s_law_places) (by decide +kernel)) (fun _ _ _ _ _ => (pg_name (i := 3) sc_law_places.nd rfl (by first | exact Or.inl rfl | exact Or.inr rfl))) (good_gN 3) (by decide) (fun _ _ _ _ _ => dts_nil) (fun _ _ _ _ _ => (de_op op_catA ok_catT (de_tup (pe_tup (da_cons (de_op op_sub ok_sub (de_var 2) de_int) da_nil))) (de_var 3))))))))) ds_nil)
    (ds_one (ds_ret (de_mov 1)))))
/-! ### _law_part -/
abbrev s_law_part : Stmt := topS 17
theorem sc_law_part : FnScope ["term", "place", "k"] ["term", "place"] (defScope s_law_part) := ⟨rfl, rfl, rfl, by decide +kernel, rfl, by decide +kernel, by decide +kernel⟩
def b_law_part : SS := (dSeq (dFor (dItT (dVar 1)) (gN 2) (dSet 0 (dBin oIxT (dVar 0) (dBin oAdd (dVar 2) (dC (.int 1))))))
    (dRet (dVar 0)))
theorem w_law_part {P : Program} {w : World} {K : PySem.W.Frag} {mg : Str → Option Value} {base : Heap} {f : Addr} {fd : FuncData} {k : Nat} {G : SF} (F : Fun K "_law_part" "_law_part" s_law_part f fd)
    (hG : ∀ c as k kx, as.length = 2 → G c as k kx → b_law_part  (endsF k kx) ⟨c, startΓ 2 3 as, false⟩) : FnOk P w K mg base (L2.CX P w) (k + 1) f fd ["term", "place"] (spD K 2 G) := by
  refine fn_D (body := b_law_part ) F sc_law_part rfl (fun cdv A outer s H E hr tk po => ?_) hG
  exact (ds_cons (ds_for po (di_tup (de_var 1)) ((pg_name (i := 2) sc_law_part.nd rfl (by first | exact Or.inl rfl | exact Or.inr rfl))) (good_gN 2) (ds_one (ds_set (i := 0) sc_law_part.nd (de_ix ix_tup ok_ixT (de_var 0) (de_op op_add ok_add (de_var 2) de_int)))))
    (ds_one (ds_ret (de_var 0))))
/-! ### _law_put -/
abbrev s_law_put : Stmt := topS 18
theorem sc_law_put : FnScope ["term", "place", "part", "row"] ["term", "place", "part"] (defScope s_law_put) := ⟨rfl, rfl, rfl, by decide +kernel, rfl, by decide +kernel, by decide +kernel⟩
def b_law_put (g__law_put : SF) : SS := (dSeq (dIfS (dTest (dBin oEqS (dCB oLenA (dCons (dVar 1) dNil)) (dC (.int 0)))) (dRet (dVar 2)) dNext)
    (dSeq (dSet 3 (dCB oList (dCons (dVar 0) dNil)))
    (dSeq (dSetIx 3 (dBin oAdd (dBin oIxT (dVar 1) (dC (.int 0))) (dC (.int 1))) (dCall 3 g__law_put (dCons (dBin oIxL (dVar 3) (dBin oAdd (dBin oIxT (dVar 1) (dC (.int 0))) (dC (.int 1)))) (dCons (dSl oSlT (dVar 1) (dPart (dC (.int 1))) dNoP) (dCons (dVar 2) dNil)))))
    (dRet (dCB oTuple (dCons (dVar 3) dNil))))))
theorem w_law_put {P : Program} {w : World} {K : PySem.W.Frag} {mg : Str → Option Value} {base : Heap} {f : Addr} {fd : FuncData} {k : Nat} {G : SF} {g__law_put : SF} (F : Fun K "_law_put" "_law_put" s_law_put f fd) (c__law_put : FnD P w K mg base k "_law_put" 3 g__law_put) (m_len : mg "len" = none) (m_list : mg "list" = none) (m_tuple : mg "tuple" = none)
    (hG : ∀ c as k kx, as.length = 3 → G c as k kx → b_law_put g__law_put (endsF k kx) ⟨c, startΓ 3 4 as, false⟩) : FnOk P w K mg base (L2.CX P w) (k + 1) f fd ["term", "place", "part"] (spD K 3 G) := by
  refine fn_D (body := b_law_put g__law_put) F sc_law_put rfl (fun cdv A outer s H E hr tk po => ?_) hG
  exact (ds_cons (ds_if (dt_cmp op_eq ok_eqS (de_cb call_len ok_lenA m_len boot_len (da_cons (de_var 1) da_nil)) de_int) (ds_one (ds_ret (de_var 2))) ds_nil)
    (ds_cons (ds_set (i := 3) sc_law_put.nd (de_cty call_list_of ok_list m_list PyProof.Rows.boot_list (da_cons (de_var 0) da_nil)))
    (ds_cons (ds_setIx (pg_sub (pv 3) (de_op op_add ok_add (de_ix ix_tup ok_ixT (de_var 1) de_int) de_int) set_list) (de_call c__law_put hr tk (Nat.le_refl _) (da_cons (de_ix ix_list ok_ixL (de_var 3) (de_op op_add ok_add (de_ix ix_tup ok_ixT (de_var 1) de_int) de_int)) (da_cons (de_slc sl_tupA ok_slT (de_var 1) (do_some de_int) do_none) (da_cons (de_var 2) da_nil)))))
    (ds_one (ds_ret (de_cty call_tuple_of ok_tuple m_tuple PyProof.Rows.boot_tuple (da_cons (de_var 3) da_nil)))))))
/-! ### _law_refused -/
abbrev s_law_refused : Stmt := topS 19
theorem sc_law_refused : FnScope ["term", "place", "error"] ["term", "place"] (defScope s_law_refused) := ⟨rfl, rfl, rfl, by decide +kernel, rfl, by decide +kernel, by decide +kernel⟩
def b_law_refused (g_part_at g_replace_at : SF) (C_BadPlace C_WorldOrPaperError : Addr) (b_BadPlace_BadPlace : Bool) : SS := (dSeq (dTryAs C_BadPlace 2 (fun a => (dIfS (dNot (dTest (dCB (oIsE a C_BadPlace b_BadPlace_BadPlace) (dCons (dVar 2) (dCons (dC (.ptr C_BadPlace)) dNil))))) (dRet (dC (.bl false))) dNext)) (dDrop (dCall 2 g_part_at (dCons (dVar 0) (dCons (dVar 1) dNil)))) (dRet (dC (.bl false))))
    (dSeq (dTryAs C_BadPlace 2 (fun a => (dRet (dCB (oIsE a C_BadPlace b_BadPlace_BadPlace) (dCons (dVar 2) (dCons (dC (.ptr C_BadPlace)) dNil))))) (dDrop (dCall 3 g_replace_at (dCons (dVar 0) (dCons (dVar 1) (dCons (dTup (dCons (dC (.str "a")) dNil)) dNil))))) dNext)
    (dRet (dC (.bl false)))))
theorem w_law_refused {P : Program} {w : World} {K : PySem.W.Frag} {mg : Str → Option Value} {base : Heap} {f : Addr} {fd : FuncData} {k : Nat} {G : SF} {g_part_at g_replace_at : SF} {C_BadPlace C_WorldOrPaperError : Addr} {b_BadPlace_BadPlace : Bool} (F : Fun K "_law_refused" "_law_refused" s_law_refused f fd) (c_part_at : FnD P w K mg base k "part_at" 2 g_part_at) (c_replace_at : FnD P w K mg base k "replace_at" 3 g_replace_at) (m_isinstance : mg "isinstance" = none) (x_BadPlace : XcC K mg "BadPlace" C_BadPlace) (x_WorldOrPaperError : XcC K mg "WorldOrPaperError" C_WorldOrPaperError) (exm_BadPlace_WorldOrPaperError : PySem.W.exmOne K (.ref C_BadPlace) (.ref C_WorldOrPaperError) = some true) (xc_BadPlace : ExcC K C_BadPlace) (kit_BadPlace_BadPlace : PySem.W.kitOne K (.ref C_BadPlace) (.ref C_BadPlace) = some b_BadPlace_BadPlace)
    (hG : ∀ c as k kx, as.length = 2 → G c as k kx → b_law_refused g_part_at g_replace_at C_BadPlace C_WorldOrPaperError b_BadPlace_BadPlace (endsF k kx) ⟨c, startΓ 2 3 as, false⟩) : FnOk P w K mg base (L2.CX P w) (k + 1) f fd ["term", "place"] (spD K 2 G) := by
  refine fn_D (body := b_law_refused g_part_at g_replace_at C_BadPlace C_WorldOrPaperError b_BadPlace_BadPlace) F sc_law_refused rfl (fun cdv A outer s H E hr tk po => ?_) hG
  exact (ds_cons (ds_tryAs exm_BadPlace_WorldOrPaperError (ds_one (ds_ret de_bl)) rfl rfl sc_law_refused.nd rfl rfl ⟨rfl, by decide, .inl x_WorldOrPaperError.gP⟩ tk (fun W2 pn xe tk2 po2 => (ds_one (ds_expr (de_call c_part_at hr tk2 (Nat.le_refl _) (da_cons (de_var 0) (da_cons (de_var 1) da_nil)))))) (fun a oe pn hz hf => (ds_one (ds_if (dt_not (dt_val (de_cb (call_isE xc_BadPlace hz hf) (ok_isE kit_BadPlace_BadPlace) m_isinstance PyProof.Rows.boot_isinstance (da_cons (de_var 2) (da_cons (de_glob (v := .ref C_BadPlace) ⟨_, x_BadPlace.gP, rfl⟩ (fun _ => Dn.ptr _)) da_nil))))) (ds_one (ds_ret de_bl)) ds_nil))))
    (ds_cons (ds_tryAs exm_BadPlace_WorldOrPaperError ds_nil rfl rfl sc_law_refused.nd rfl rfl ⟨rfl, by decide, .inl x_WorldOrPaperError.gP⟩ tk (fun W2 pn xe tk2 po2 => (ds_one (ds_expr (de_call c_replace_at hr tk2 (Nat.le_refl _) (da_cons (de_var 0) (da_cons (de_var 1) (da_cons (de_tup (pe_tup (da_cons de_str da_nil))) da_nil))))))) (fun a oe pn hz hf => (ds_one (ds_ret (de_cb (call_isE xc_BadPlace hz hf) (ok_isE kit_BadPlace_BadPlace) m_isinstance PyProof.Rows.boot_isinstance (da_cons (de_var 2) (da_cons (de_glob (v := .ref C_BadPlace) ⟨_, x_BadPlace.gP, rfl⟩ (fun _ => Dn.ptr _)) da_nil)))))))
    (ds_one (ds_ret de_bl))))
/-! ### _law_one -/
abbrev s_law_one : Stmt := topS 21
theorem sc_law_one : FnScope ["state", "term", "part", "places", "place", "here", "due", "actual", "old", "beyond", "above"] ["state", "term", "part"] (defScope s_law_one) := ⟨rfl, rfl, rfl, by decide +kernel, rfl, by decide +kernel, by decide +kernel⟩
def b_law_one (g__law_places g__law_take g_part_at g__law_part g__law_put g_replace_at g__law_refused g__law_listed : SF) : SS := (dSeq (dSet 3 (dCall 1 g__law_places (dCons (dVar 1) dNil)))
    (dSeq (dSet 4 (dBin oIxL (dVar 3) (dCall 2 g__law_take (dCons (dVar 0) (dCons (dCB oLenA (dCons (dVar 3) dNil)) dNil)))))
    (dSeq (dFor (dIt (dFrz 3)) (gN 5) (dIfS (dTest (dBin oNe (dCall 2 g_part_at (dCons (dVar 1) (dCons (dVar 5) dNil))) (dCall 2 g__law_part (dCons (dVar 1) (dCons (dVar 5) dNil))))) (dRet (dC (.bl false))) dNext))
    (dSeq (dSet 6 (dCall 3 g__law_put (dCons (dVar 1) (dCons (dVar 4) (dCons (dVar 2) dNil)))))
    (dSeq (dSet 7 (dCall 3 g_replace_at (dCons (dVar 1) (dCons (dVar 4) (dCons (dVar 2) dNil)))))
    (dSeq (dIfS (dOr (dTest (dBin oNe (dVar 7) (dVar 6))) (dTest (dBin oNe (dCall 2 g_part_at (dCons (dVar 7) (dCons (dVar 4) dNil))) (dVar 2)))) (dRet (dC (.bl false))) dNext)
    (dSeq (dSet 8 (dCall 2 g__law_part (dCons (dVar 1) (dCons (dVar 4) dNil))))
    (dSeq (dIfS (dTest (dBin oNe (dCall 3 g_replace_at (dCons (dVar 7) (dCons (dVar 4) (dCons (dVar 8) dNil)))) (dVar 1))) (dRet (dC (.bl false))) dNext)
    (dSeq (dSet 9 (dBin oCatT (dVar 4) (dTup (dCons (dBin oSub (dCB oLenA (dCons (dVar 8) dNil)) (dC (.int 1))) dNil))))
    (dSeq (dIfS (dTest (dCB oIsi (dCons (dVar 8) (dCons (dC (.ty "str")) dNil)))) (dSet 9 (dBin oCatT (dVar 4) (dTup (dCons (dCall 2 g__law_take (dCons (dVar 0) (dCons (dC (.int 3)) dNil))) dNil)))) dNext)
    (dSeq (dIfS (dOr (dNot (dTest (dCall 2 g__law_refused (dCons (dVar 1) (dCons (dVar 9) dNil))))) (dNot (dTest (dCall 2 g__law_refused (dCons (dVar 1) (dCons (dBin oCatT (dVar 9) (dTup (dCons (dC (.int 0)) dNil))) dNil)))))) (dRet (dC (.bl false))) dNext)
    (dSeq (dSet 10 (dSl oSlT (dVar 4) dNoP (dPart (dCall 2 g__law_take (dCons (dVar 0) (dCons (dBin oAdd (dCB oLenA (dCons (dVar 4) dNil)) (dC (.int 1))) dNil))))))
    (dSeq (dIfS (dNot (dTest (dCall 2 g__law_refused (dCons (dVar 1) (dCons (dBin oCatT (dVar 10) (dTup (dCons (dBin oSub (dUn oNeg (dC (.int 1))) (dCall 2 g__law_take (dCons (dVar 0) (dCons (dC (.int 4)) dNil)))) dNil))) dNil))))) (dRet (dC (.bl false))) dNext)
    (dRet (dAndV (dCall 1 g__law_listed (dCons (dVar 1) dNil)) (dAndV (dCall 1 g__law_listed (dCons (dVar 2) dNil)) (dCall 1 g__law_listed (dCons (dVar 6) dNil))))))))))))))))))
theorem w_law_one {P : Program} {w : World} {K : PySem.W.Frag} {mg : Str → Option Value} {base : Heap} {f : Addr} {fd : FuncData} {k : Nat} {G : SF} {g__law_places g__law_take g_part_at g__law_part g__law_put g_replace_at g__law_refused g__law_listed : SF} (F : Fun K "_law_one" "_law_one" s_law_one f fd) (c__law_places : FnD P w K mg base k "_law_places" 1 g__law_places) (c__law_take : FnD P w K mg base k "_law_take" 2 g__law_take) (c_part_at : FnD P w K mg base k "part_at" 2 g_part_at) (c__law_part : FnD P w K mg base k "_law_part" 2 g__law_part) (c__law_put : FnD P w K mg base k "_law_put" 3 g__law_put) (c_replace_at : FnD P w K mg base k "replace_at" 3 g_replace_at) (c__law_refused : FnD P w K mg base k "_law_refused" 2 g__law_refused) (c__law_listed : FnD P w K mg base k "_law_listed" 1 g__law_listed) (m_len : mg "len" = none) (m_str : mg "str" = none) (m_isinstance : mg "isinstance" = none)
    (hG : ∀ c as k kx, as.length = 3 → G c as k kx → b_law_one g__law_places g__law_take g_part_at g__law_part g__law_put g_replace_at g__law_refused g__law_listed (endsF k kx) ⟨c, startΓ 3 11 as, false⟩) : FnOk P w K mg base (L2.CX P w) (k + 1) f fd ["state", "term", "part"] (spD K 3 G) := by
  refine fn_D (body := b_law_one g__law_places g__law_take g_part_at g__law_part g__law_put g_replace_at g__law_refused g__law_listed) F sc_law_one rfl (fun cdv A outer s H E hr tk po => ?_) hG
  exact (ds_cons (ds_set (i := 3) sc_law_one.nd (de_call c__law_places hr tk (Nat.le_refl _) (da_cons (de_var 1) da_nil)))
    (ds_cons (ds_set (i := 4) sc_law_one.nd (de_ix ix_list ok_ixL (de_var 3) (de_call c__law_take hr tk (Nat.le_refl _) (da_cons (de_var 0) (da_cons (de_cb call_len ok_lenA m_len boot_len (da_cons (de_var 3) da_nil)) da_nil)))))
    (ds_cons (ds_for po (di_list (de_frz 3)) ((pg_name (i := 5) sc_law_one.nd rfl (by first | exact Or.inl rfl | exact Or.inr rfl))) (good_gN 5) (ds_one (ds_if (dt_cmp (op_neD hr.units) ok_ne (de_call c_part_at hr tk (Nat.le_refl _) (da_cons (de_var 1) (da_cons (de_var 5) da_nil))) (de_call c__law_part hr tk (Nat.le_refl _) (da_cons (de_var 1) (da_cons (de_var 5) da_nil)))) (ds_one (ds_ret de_bl)) ds_nil)))
    (ds_cons (ds_set (i := 6) sc_law_one.nd (de_call c__law_put hr tk (Nat.le_refl _) (da_cons (de_var 1) (da_cons (de_var 4) (da_cons (de_var 2) da_nil)))))
    (ds_cons (ds_set (i := 7) sc_law_one.nd (de_call c_replace_at hr tk (Nat.le_refl _) (da_cons (de_var 1) (da_cons (de_var 4) (da_cons (de_var 2) da_nil)))))
    (ds_cons (ds_if (PW.pt (dw_or (dt_cmp (op_neD hr.units) ok_ne (de_var 7) (de_var 6)) (dw_or1 (dt_cmp (op_neD hr.units) ok_ne (de_call c_part_at hr tk (Nat.le_refl _) (da_cons (de_var 7) (da_cons (de_var 4) da_nil))) (de_var 2))))) (ds_one (ds_ret de_bl)) ds_nil)
    (ds_cons (ds_set (i := 8) sc_law_one.nd (de_call c__law_part hr tk (Nat.le_refl _) (da_cons (de_var 1) (da_cons (de_var 4) da_nil))))
    (ds_cons (ds_if (dt_cmp (op_neD hr.units) ok_ne (de_call c_replace_at hr tk (Nat.le_refl _) (da_cons (de_var 7) (da_cons (de_var 4) (da_cons (de_var 8) da_nil)))) (de_var 1)) (ds_one (ds_ret de_bl)) ds_nil)
    (ds_cons (ds_set (i := 9) sc_law_one.nd (de_op op_catA ok_catT (de_var 4) (de_tup (pe_tup (da_cons (de_op op_sub ok_sub (de_cb call_len ok_lenA m_len boot_len (da_cons (de_var 8) da_nil)) de_int) da_nil)))))
    (ds_cons (ds_if (dt_val (de_cb call_isi ok_isi m_isinstance PyProof.Rows.boot_isinstance (da_cons (de_var 8) (da_cons (de_ty m_str PyProof.Rows.boot_str) da_nil)))) (ds_one (ds_set (i := 9) sc_law_one.nd (de_op op_catA ok_catT (de_var 4) (de_tup (pe_tup (da_cons (de_call c__law_take hr tk (Nat.le_refl _) (da_cons (de_var 0) (da_cons de_int da_nil))) da_nil)))))) ds_nil)
    (ds_cons (ds_if (PW.pt (dw_or (dt_not (dt_val (de_call c__law_refused hr tk (Nat.le_refl _) (da_cons (de_var 1) (da_cons (de_var 9) da_nil))))) (dw_or1 (dt_not (dt_val (de_call c__law_refused hr tk (Nat.le_refl _) (da_cons (de_var 1) (da_cons (de_op op_catA ok_catT (de_var 9) (de_tup (pe_tup (da_cons de_int da_nil)))) da_nil)))))))) (ds_one (ds_ret de_bl)) ds_nil)
    (ds_cons (ds_set (i := 10) sc_law_one.nd (de_slc sl_tupA ok_slT (de_var 4) do_none (do_some (de_call c__law_take hr tk (Nat.le_refl _) (da_cons (de_var 0) (da_cons (de_op op_add ok_add (de_cb call_len ok_lenA m_len boot_len (da_cons (de_var 4) da_nil)) de_int) da_nil))))))
    (ds_cons (ds_if (dt_not (dt_val (de_call c__law_refused hr tk (Nat.le_refl _) (da_cons (de_var 1) (da_cons (de_op op_catA ok_catT (de_var 10) (de_tup (pe_tup (da_cons (de_op op_sub ok_sub (de_un un_neg ok_neg de_int) (de_call c__law_take hr tk (Nat.le_refl _) (da_cons (de_var 0) (da_cons de_int da_nil)))) da_nil)))) da_nil))))) (ds_one (ds_ret de_bl)) ds_nil)
    (ds_one (ds_ret (de_andV (de_call c__law_listed hr tk (Nat.le_refl _) (da_cons (de_var 1) da_nil)) (de_andV (de_call c__law_listed hr tk (Nat.le_refl _) (da_cons (de_var 2) da_nil)) (de_one (de_call c__law_listed hr tk (Nat.le_refl _) (da_cons (de_var 6) da_nil))))))))))))))))))))
end K86

/-! ## T86 -/
set_option Elab.async false
set_option linter.all false
set_option autoImplicit false
set_option maxRecDepth 100000
set_option maxHeartbeats 1000000
namespace K86
open PySem L2 DL
/-! ### terms, places, parts -/
inductive Tm : Nat → D → Prop
  | u {n : Nat} {x : Str} : PyData.strOk x = true → x.length ≤ 1000000 → Tm n (.str x)
  | a {n : Nat} {f : Str} {ds : List D} : PyData.strOk f = true → ds.length ≤ 3 → (∀ d ∈ ds, Tm n d) → Tm (n + 1) (.tup (.str f :: ds))
theorem Tm.mono {n m : Nat} {d : D} (h : Tm n d) (hm : n ≤ m) : Tm m d := by
  induction h generalizing m with
  | u hx hl => exact .u hx hl
  | a hf hl _ ih =>
    obtain ⟨m, rfl⟩ : ∃ k, m = k + 1 := ⟨m - 1, by omega⟩
    exact .a hf hl fun d hd => ih d hd (by omega)
theorem Tm.ok {n : Nat} {d : D} (h : Tm n d) : okN n d = true := by
  induction h with
  | u hx _ => unfold okN; exact hx
  | @a n f ds hf hl _ ih =>
    unfold okN
    simp only [List.all_cons, Bool.and_eq_true, List.all_eq_true]
    refine ⟨?_, ih⟩
    unfold okN; exact hf
def plS (f : D → List (List Nat)) : Nat → List D → List (List Nat)
  | _, [] => []
  | i, d :: ds => (f d).map (i :: ·) ++ plS f (i + 1) ds
def plN : Nat → D → List (List Nat)
  | 0, _ => [[]]
  | n + 1, d => match d with
    | .tup ds => [] :: plS (plN n) 0 ds.tail
    | _ => [[]]
theorem plN_str (n : Nat) (x : Str) : plN n (.str x) = [[]] := by cases n <;> rfl
def encP (p : List Nat) : D := .tup (p.map fun (i : Nat) => D.int (i : Int))
theorem plS_len {f : D → List (List Nat)} {b : Nat} : ∀ {ds : List D} {i : Nat}, (∀ d ∈ ds, (f d).length ≤ b) → (plS f i ds).length ≤ ds.length * b
  | [], _, _ => by simp [plS]
  | d :: ds, i, h => by
    simp only [plS, List.length_append, List.length_map, List.length_cons, Nat.succ_mul]
    have h1 := h d (by simp)
    have h2 := plS_len (ds := ds) (i := i + 1) fun x hx => h x (by simp [hx])
    omega
theorem plN_len {n : Nat} {d : D} (h : Tm n d) : (plN n d).length ≤ 4 ^ n := by
  induction h with
  | u => rw [plN_str]; exact Nat.one_le_pow _ _ (by omega)
  | @a n f ds _ hl _ ih =>
    have := plS_len (i := 0) ih
    have h1 : 1 ≤ 4 ^ n := Nat.one_le_pow _ _ (by omega)
    show (plS (plN n) 0 ds).length + 1 ≤ 4 ^ (n + 1)
    rw [Nat.pow_succ]
    have : ds.length * 4 ^ n ≤ 3 * 4 ^ n := Nat.mul_le_mul_right _ hl
    omega
def atP : List Int → D → Option D
  | [], d => some d
  | i :: is, .tup ds => if 0 ≤ i ∧ i < (ds.length : Int) - 1 then atP is (ds.getD (i + 1).toNat .non) else none
  | _ :: _, _ => none
def putP : List Int → D → D → Option D
  | [], _, u => some u
  | i :: is, .tup ds, u => if 0 ≤ i ∧ i < (ds.length : Int) - 1 then (putP is (ds.getD (i + 1).toNat .non) u).map fun e => .tup (ds.set (i + 1).toNat e) else none
  | _ :: _, _, _ => none
theorem atP_app : ∀ (p q : List Int) (d : D), atP (p ++ q) d = (atP p d).bind (atP q)
  | [], q, d => rfl
  | i :: p, q, d => by
    cases d with
    | tup ds =>
      simp only [List.cons_append, atP]
      split
      · exact atP_app p q _
      · rfl
    | _ => rfl
theorem putP_none : ∀ (p : List Int) (d u : D), putP p d u = none ↔ atP p d = none
  | [], d, u => by simp [putP, atP]
  | i :: p, d, u => by
    cases d with
    | tup ds =>
      simp only [putP, atP]
      split
      · rw [Option.map_eq_none_iff]; exact putP_none p _ u
      · simp
    | _ => simp [putP, atP]
theorem getD_set {ds : List D} {j : Nat} {e : D} (h : j < ds.length) : (ds.set j e).getD j .non = e := by
  rw [List.getD_eq_getElem?_getD, List.getElem?_set_self h]; rfl
theorem at_put : ∀ (p : List Int) (d u e : D), putP p d u = some e → atP p e = some u
  | [], d, u, e, h => by simp [putP] at h; simp [atP, h]
  | i :: p, d, u, e, h => by
    cases d with
    | tup ds =>
      simp only [putP] at h
      split at h
      · rename_i hi
        obtain ⟨e', h1, rfl⟩ := Option.map_eq_some_iff.mp h
        simp only [atP, List.length_set]
        rw [if_pos hi, getD_set (by omega)]
        exact at_put p _ u e' h1
      · cases h
    | _ => simp [putP] at h
theorem put_back : ∀ (p : List Int) (d u e o : D), putP p d u = some e → atP p d = some o → putP p e o = some d
  | [], d, u, e, o, h, h2 => by simp [atP] at h2; simp [putP, h2]
  | i :: p, d, u, e, o, h, h2 => by
    cases d with
    | tup ds =>
      simp only [putP] at h
      simp only [atP] at h2
      split at h
      · rename_i hi
        rw [if_pos hi] at h2
        obtain ⟨e', h1, rfl⟩ := Option.map_eq_some_iff.mp h
        simp only [putP, List.length_set]
        rw [if_pos hi, getD_set (by omega), put_back p _ u e' o h1 h2]
        simp only [Option.map_some, List.set_set]
        congr 2
        have hj : (i + 1).toNat < ds.length := by omega
        rw [List.getD_eq_getElem?_getD, List.getElem?_eq_getElem hj]
        exact List.set_getElem_self hj
      · cases h
    | _ => simp [putP] at h
/-- a place as the ints of it -/
def ip (p : List Nat) : List Int := p.map fun (i : Nat) => (i : Int)
theorem plS_mem {f : D → List (List Nat)} : ∀ {ds : List D} {i : Nat} {p : List Nat}, p ∈ plS f i ds → ∃ j d q, ds[j]? = some d ∧ q ∈ f d ∧ p = (i + j) :: q
  | [], _, _, h => by simp [plS] at h
  | d :: ds, i, p, h => by
    simp only [plS, List.mem_append, List.mem_map] at h
    rcases h with ⟨q, hq, rfl⟩ | h
    · exact ⟨0, d, q, rfl, hq, rfl⟩
    · obtain ⟨j, d', q, h1, h2, rfl⟩ := plS_mem h
      exact ⟨j + 1, d', q, h1, h2, by congr 1; omega⟩
theorem pl_len : ∀ {n : Nat} {d : D} {p : List Nat}, p ∈ plN n d → p.length ≤ n := by
  intro n
  induction n with
  | zero =>
    intro d p h
    simp only [plN, List.mem_singleton] at h
    subst h; exact Nat.le_refl _
  | succ n ih =>
    intro d p h
    cases d with
    | tup ds =>
      have h : p ∈ [] :: plS (plN n) 0 ds.tail := h
      rcases List.mem_cons.mp h with rfl | h
      · exact Nat.zero_le _
      · obtain ⟨j, d, q, _, h2, rfl⟩ := plS_mem h
        have := ih h2
        rw [List.length_cons]; omega
    | _ =>
      simp only [plN, List.mem_singleton] at h
      subst h; exact Nat.zero_le _
/-- the places are those at which there is a part -/
theorem pl_at {n : Nat} {d : D} (h : Tm n d) : ∀ p ∈ plN n d, ∃ e, atP (ip p) d = some e ∧ Tm n e := by
  induction h with
  | u hx hl =>
    intro p hp
    rw [plN_str] at hp
    simp only [List.mem_singleton] at hp
    subst hp
    exact ⟨_, rfl, .u hx hl⟩
  | @a n f ds hf hl hd ih =>
    intro p hp
    have hp : p ∈ [] :: plS (plN n) 0 ds := hp
    rcases List.mem_cons.mp hp with rfl | hp
    · exact ⟨_, rfl, .a hf hl hd⟩
    · obtain ⟨j, d, q, h1, h2, rfl⟩ := plS_mem hp
      have hj := (List.getElem?_eq_some_iff.mp h1).1
      obtain ⟨e, h3, h4⟩ := ih d (List.mem_of_getElem? h1) q h2
      refine ⟨e, ?_, h4.mono (by omega)⟩
      simp only [ip, List.map_cons, atP, List.length_cons, Nat.zero_add]
      rw [if_pos (by omega)]
      have : (((j : Nat) : Int) + 1).toNat = j + 1 := by omega
      rw [this]
      simp only [List.getD_eq_getElem?_getD, List.getElem?_cons_succ, h1, Option.getD_some]
      exact h3
theorem put_some {p : List Int} {d u e : D} (h : atP p d = some e) : ∃ t, putP p d u = some t := by
  cases q : putP p d u with
  | some t => exact ⟨t, rfl⟩
  | none =>
    rw [putP_none] at q
    rw [h] at q; cases q
theorem put_tm {m n : Nat} {u : D} (hu : Tm m u) : ∀ (p : List Int) {d t : D}, Tm n d → putP p d u = some t → Tm (n + m) t := by
  intro p
  induction p generalizing n with
  | nil =>
    intro d t _ h
    simp [putP] at h
    rw [← h]
    exact hu.mono (by omega)
  | cons i p ih =>
    intro d t hd h
    cases hd with
    | u => simp [putP] at h
    | @a n f ds hf hl hds =>
      simp only [putP] at h
      split at h
      · rename_i hi
        simp only [List.length_cons] at hi
        obtain ⟨e', h1, rfl⟩ := Option.map_eq_some_iff.mp h
        have hj : (i + 1).toNat = i.toNat + 1 := by omega
        rw [hj] at h1 ⊢
        simp only [List.getD_cons_succ] at h1
        have hlt : i.toNat < ds.length := by omega
        have hmem : ds.getD i.toNat .non ∈ ds := by
          rw [List.getD_eq_getElem?_getD, List.getElem?_eq_getElem hlt]
          exact List.getElem_mem hlt
        have he := ih (hds _ hmem) h1
        have e : n + 1 + m = (n + m) + 1 := by omega
        rw [e, List.set_cons_succ]
        refine .a hf (by rw [List.length_set]; exact hl) fun x hx => ?_
        rcases List.mem_or_eq_of_mem_set hx with hx | rfl
        · exact (hds x hx).mono (by omega)
        · exact he
      · cases h
end K86

/-! ## P86 -/
set_option Elab.async false
set_option linter.all false
set_option autoImplicit false
set_option maxRecDepth 100000
set_option maxHeartbeats 1000000
namespace K86
open PySem L2 DL
local macro_rules | `(tactic| walk_at "ev") => `(tactic| simp [dSeq, dIfS, dRet, dRetN, dDrop, dSet, dAug, dApp, dSetIx, dAsgT, dNext, dBrk, dCnt, dRaise, dFor, dIt, dItT, dRng1, dRng2, gN, gT2, gT3, dTest, dAnd, dOr, dNot, dAndV, dOrV, dNotV, dIf, dTru, dTrue, dCall, dCB, dCons, dNil, dVar, dFrz, dMov, dC, dBin, dBinK, dUn, dTup, dLst, dSl, dPart, dNoP, dChain, dLc, wipeΓ,
  startΓ, endsF, imm, pend, retable, argIm, ims, oI, oIC, oEqS, oNeS, oCatT, oCatS, oCatH, lstH, oIxT, oIxL, oIxS, oSlT, oSlL, oNeg, oLenA, lenA, oSum, oAny, oAll, oTuple, oList, oInt1, oIsi, oAbs, rdD, scD, truD, tyD, scal])
def gUnk : SF := fun c as k _ => (∃ x, as = [.im (.str x)] ∧ k c (.im (.bl true))) ∨ (∃ ds, as = [.im (.tup ds)] ∧ k c (.im (.bl false)))
theorem p_unk (c : Nat) (as : List Sl) (k : Nat → Sl → Prop) (kx : Nat → XD → Prop) (hl : as.length = 1) (h : gUnk c as k kx) : b_is_unknown (endsF k kx) ⟨c, startΓ 1 1 as, false⟩ := by
  rcases h with ⟨x, rfl, h⟩ | ⟨ds, rfl, h⟩
  · exact ⟨_, _, _, _, true, rfl, rfl, rfl, by decide +kernel, trivial, h⟩
  · exact ⟨_, _, _, _, false, rfl, rfl, rfl, by decide +kernel, trivial, h⟩
theorem unk_str {c : Nat} {x : Str} {k : Nat → Sl → Prop} {kx : Nat → XD → Prop} (h : k c (.im (.bl true))) : gUnk c [.im (.str x)] k kx := .inl ⟨x, rfl, h⟩
theorem unk_tup {c : Nat} {x : List D} {k : Nat → Sl → Prop} {kx : Nat → XD → Prop} (h : k c (.im (.bl false))) : gUnk c [.im (.tup x)] k kx := .inr ⟨x, rfl, h⟩
/-! part_at -/
def gPart (C : Addr) : SF := fun c as k kx => ∃ d is, as = [.im d, .im (.tup (is.map D.int))] ∧ (∃ n, Tm n d) ∧ (match atP is d with | some e => k c (.im e) | none => kx c ⟨.ref C, none⟩)
theorem atI_ok {α : Type} {ds : List α} {i : Int} {d : α} (h0 : 0 ≤ i) (h : ds[i.toNat]? = some d) : atI ds i = some d := by
  have := atI_nat h
  have e : ((i.toNat : Nat) : Int) = i := by omega
  rw [e] at this
  exact this
theorem p_part (C : Addr) (c : Nat) (as : List Sl) (k : Nat → Sl → Prop) (kx : Nat → XD → Prop) (hl : as.length = 2) (h : gPart C c as k kx) : b_part_at gUnk C (endsF k kx) ⟨c, startΓ 2 3 as, false⟩ := by
  obtain ⟨d, is, rfl, ⟨n, hd⟩, h⟩ := h
  refine ⟨_, rfl, rfl, ?_⟩
  refine loopD_run (fun pre s => ∃ js e x n, pre = js.map D.int ∧ s = ⟨c, [.im e, .im (.tup (is.map D.int)), x], false⟩ ∧ atP js d = some e ∧ Tm n e) ⟨[], d, .no, n, rfl, rfl, rfl, hd⟩ ?_ ?_
  · rintro pre x post s N hp ⟨js, e, y, n, rfl, rfl, h1, h2⟩ hN
    obtain ⟨i, ks, rfl, hks⟩ : ∃ i ks, x = D.int i ∧ is = js ++ i :: ks := by
      obtain ⟨l1, l2, rfl, e1, e2⟩ := List.map_eq_append_iff.mp hp
      obtain ⟨i, ks, rfl, e3, e4⟩ := List.map_eq_cons_iff.mp e2
      have := List.map_inj_right (f := D.int) (fun a b h => by injection h) |>.mp e1
      exact ⟨i, ks, e3.symm, by rw [this]⟩
    have hat : atP is d = (atP (i :: ks) e) := by rw [hks, atP_app, h1]; rfl
    have raise : (atP (i :: ks) e = none) → kx c ⟨.ref C, none⟩ := fun z => by rw [hat, z] at h; exact h
    cases h2 with
    | u hx hl => 
      refine ⟨rfl, rfl, unk_str ⟨true, rfl, ?_⟩⟩
      exact raise rfl
    | @a m f ds hf hl hds =>
      walk_at "ev"
      simp [gUnk]
      by_cases h0 : i < 0
      · exact .inl ⟨h0, raise (by simp only [atP]; rw [if_neg (by omega)])⟩
      · refine .inr ⟨by omega, ?_⟩
        by_cases h3 : (ds.length : Int) ≤ i
        · exact .inl ⟨h3, raise (by simp only [atP, List.length_cons]; rw [if_neg (by omega)])⟩
        · have hlt : i.toNat < ds.length := by omega
          have e1 : (i + 1).toNat = i.toNat + 1 := by omega
          refine .inr ⟨by omega, ds[i.toNat], atI_ok (by omega) (by rw [e1, List.getElem?_cons_succ]; exact List.getElem?_eq_getElem hlt), hN _ ⟨js ++ [i], ds[i.toNat], _, m, by simp, rfl, ?_, hds _ (List.getElem_mem hlt)⟩⟩
          rw [atP_app, h1]
          simp only [Option.bind_some, atP, List.length_cons]
          rw [if_pos (by omega), e1]
          simp [hlt]
  · rintro s ⟨js, e, y, n, hjs, rfl, h1, h2⟩
    have : is = js := List.map_inj_right (f := D.int) (fun a b h => by injection h) |>.mp hjs
    subst this
    rw [h1] at h
    exact ⟨trivial, h⟩
/-! _law_part -/
def gLPart : SF := fun c as k kx => ∃ d is e, as = [.im d, .im (.tup (is.map D.int))] ∧ (∃ n, Tm n d) ∧ atP is d = some e ∧ k c (.im e)
theorem map_int {is : List Int} {js : List Int} (h : is.map D.int = js.map D.int) : is = js := List.map_inj_right (f := D.int) (fun a b h => by injection h) |>.mp h
theorem split_int {is js : List Int} {x : D} {post : List D} (hp : is.map D.int = js.map D.int ++ x :: post) : ∃ i ks, x = D.int i ∧ is = js ++ i :: ks := by
  obtain ⟨l1, l2, rfl, e1, e2⟩ := List.map_eq_append_iff.mp hp
  obtain ⟨i, ks, rfl, e3, e4⟩ := List.map_eq_cons_iff.mp e2
  exact ⟨i, ks, e3.symm, by rw [map_int e1]⟩
theorem p_lpart (c : Nat) (as : List Sl) (k : Nat → Sl → Prop) (kx : Nat → XD → Prop) (hl : as.length = 2) (h : gLPart c as k kx) : b_law_part (endsF k kx) ⟨c, startΓ 2 3 as, false⟩ := by
  obtain ⟨d, is, e, rfl, ⟨n, hd⟩, he, h⟩ := h
  refine ⟨_, rfl, rfl, ?_⟩
  refine loopD_run (fun pre s => ∃ js e x n, pre = js.map D.int ∧ s = ⟨c, [.im e, .im (.tup (is.map D.int)), x], false⟩ ∧ atP js d = some e ∧ Tm n e) ⟨[], d, .no, n, rfl, rfl, rfl, hd⟩ ?_ ?_
  · rintro pre x post s N hp ⟨js, e', y, n, rfl, rfl, h1, h2⟩ hN
    obtain ⟨i, ks, rfl, hks⟩ := split_int hp
    have hat : atP (i :: ks) e' = some e := by rw [hks, atP_app, h1] at he; exact he
    cases h2 with
    | u hx hl => simp [atP] at hat
    | @a m f ds hf hl hds =>
      simp only [atP, List.length_cons] at hat
      split at hat
      · rename_i hi
        have hlt : i.toNat < ds.length := by omega
        have e1 : (i + 1).toNat = i.toNat + 1 := by omega
        walk_at "ev"
        refine ⟨ds[i.toNat], atI_ok (by omega) (by rw [e1, List.getElem?_cons_succ]; exact List.getElem?_eq_getElem hlt), hN _ ⟨js ++ [i], ds[i.toNat], _, m, by simp, rfl, ?_, hds _ (List.getElem_mem hlt)⟩⟩
        rw [atP_app, h1]
        simp only [Option.bind_some, atP, List.length_cons]
        rw [if_pos (by omega), e1]
        simp [hlt]
      · cases hat
  · rintro s ⟨js, e', y, n, hjs, rfl, h1, h2⟩
    have : is = js := map_int hjs
    subst this
    rw [h1] at he
    cases he
    exact ⟨trivial, h⟩
/-! replace_at -/
def gRepl (C : Addr) (n : Nat) : SF := fun c as k kx => ∃ d is u, as = [.im d, .im (.tup (is.map D.int)), .im u] ∧ is.length ≤ n ∧ (∃ m, Tm m d) ∧ (match putP is d u with | some e => k c (.im e) | none => kx c ⟨.ref C, none⟩)
theorem cut_tail {α : Type} (x : α) (xs : List α) : cutD (x :: xs) (some 1) none = xs := by
  unfold cutD
  rw [HT.sIx_none, show HT.sIx (x :: xs).length 0 (some 1) = 1 by
    rw [show HT.sIx (x :: xs).length 0 (some 1) = min 1 (x :: xs).length from HT.sIx_nat _ 0 1, List.length_cons]; omega]
  simp
theorem cut_from {α : Type} (xs : List α) {j : Int} (h : 0 ≤ j) : cutD xs (some j) none = xs.drop j.toNat := by
  unfold cutD
  obtain ⟨n, rfl⟩ : ∃ n : Nat, j = n := ⟨j.toNat, by omega⟩
  rw [HT.sIx_none, show HT.sIx xs.length 0 (some (n : Int)) = min n xs.length from HT.sIx_nat _ 0 n]
  simp only [Int.toNat_natCast]
  by_cases hn : n ≤ xs.length
  · rw [Nat.min_eq_left hn, List.take_of_length_le (by rw [List.length_drop]; omega)]
  · rw [Nat.min_eq_right (by omega), List.drop_length, List.drop_eq_nil_of_le (by omega)]; simp
theorem cut_to {α : Type} (xs : List α) {j : Int} (h : 0 ≤ j) : cutD xs none (some j) = xs.take j.toNat := by
  unfold cutD
  obtain ⟨n, rfl⟩ : ∃ n : Nat, j = n := ⟨j.toNat, by omega⟩
  rw [HT.sIx_none, show HT.sIx xs.length xs.length (some (n : Int)) = min n xs.length from HT.sIx_nat _ _ n]
  simp only [Int.toNat_natCast, List.drop_zero, Nat.sub_zero]
  by_cases hn : n ≤ xs.length
  · rw [Nat.min_eq_left hn]
  · rw [Nat.min_eq_right (by omega), List.take_length, List.take_of_length_le (by omega)]
theorem set_take {α : Type} (xs : List α) (j : Nat) (x : α) (h : j < xs.length) : xs.take j ++ x :: xs.drop (j + 1) = xs.set j x := by
  rw [List.set_eq_take_append_cons_drop, if_pos h]
theorem p_repl (C : Addr) (n : Nat) (c : Nat) (as : List Sl) (k : Nat → Sl → Prop) (kx : Nat → XD → Prop) (hl : as.length = 3) (h : gRepl C (n + 1) c as k kx) : b_replace_at gUnk (gRepl C n) C (endsF k kx) ⟨c, startΓ 3 5 as, false⟩ := by
  obtain ⟨d, is, u, rfl, hlen, ⟨m, hd⟩, h⟩ := h
  cases is with
  | nil =>
    unfold b_replace_at
    walk_at "ev"
    simpa [putP] using h
  | cons i is =>
    have raise : putP (i :: is) d u = none → kx c ⟨.ref C, none⟩ := fun z => by rw [z] at h; exact h
    have a0 : ∀ x, atI (D.int i :: List.map D.int is) 0 = some x ↔ x = D.int i := fun x => by
      have : atI (D.int i :: List.map D.int is) 0 = some (D.int i) := atI_nat (j := 0) rfl
      rw [this]; exact ⟨fun h => (Option.some.inj h).symm, fun h => by rw [h]⟩
    cases hd with
    | u hx hl =>
      unfold b_replace_at
      walk_at "ev"
      simp [gUnk, a0]
      exact raise rfl
    | @a m f ds hf hl hds =>
      unfold b_replace_at
      walk_at "ev"
      simp [gUnk, a0]
      by_cases h0 : i < 0
      · exact .inl ⟨h0, raise (by simp only [putP]; rw [if_neg (by omega)])⟩
      · refine .inr ⟨by omega, ?_⟩
        by_cases h3 : (ds.length : Int) ≤ i
        · exact .inl ⟨h3, raise (by simp only [putP, List.length_cons]; rw [if_neg (by omega)])⟩
        · have hlt : i.toNat < ds.length := by omega
          have e1 : (i + 1).toNat = i.toNat + 1 := by omega
          have e2 : (i + 2).toNat = i.toNat + 2 := by omega
          refine .inr ⟨by omega, ds[i.toNat], atI_ok (by omega) (by rw [e1, List.getElem?_cons_succ]; exact List.getElem?_eq_getElem hlt), ?_⟩
          rw [cut_tail, cut_to _ (by omega), cut_from _ (by omega), e1, e2]
          refine ⟨_, is, u, rfl, by simpa using hlen, ⟨m, hds _ (List.getElem_mem hlt)⟩, ?_⟩
          have hp : putP (i :: is) (.tup (.str f :: ds)) u = (putP is ds[i.toNat] u).map fun e => .tup ((.str f :: ds).set (i.toNat + 1) e) := by
            simp only [putP, List.length_cons]
            rw [if_pos (by omega), e1]
            simp [hlt]
          rw [hp] at h
          cases q : putP is ds[i.toNat] u with
          | none => rw [q] at h; exact h
          | some e =>
            rw [q] at h
            simp only [Option.map_some] at h
            have hs := set_take (D.str f :: ds) (i.toNat + 1) e (by simp; omega)
            simp at hs h ⊢
            refine ⟨by omega, by omega, ?_⟩
            rw [hs]
            exact h
end K86

/-! ## P86b -/
set_option Elab.async false
set_option linter.all false
set_option autoImplicit false
set_option maxRecDepth 100000
set_option maxHeartbeats 1000000
namespace K86
open PySem L2 DL
local macro_rules | `(tactic| walk_at "ev") => `(tactic| simp [dSeq, dIfS, dRet, dRetN, dDrop, dSet, dAug, dApp, dSetIx, dAsgT, dNext, dBrk, dCnt, dRaise, dFor, dIt, dItT, dRng1, dRng2, gN, gT2, gT3, dTest, dAnd, dOr, dNot, dAndV, dOrV, dNotV, dIf, dTru, dTrue, dCall, dCB, dCons, dNil, dVar, dFrz, dMov, dC, dBin, dBinK, dUn, dTup, dLst, dSl, dPart, dNoP, dChain, dLc, wipeΓ,
  startΓ, endsF, imm, pend, retable, argIm, ims, oI, oIC, oEqS, oNeS, oCatT, oCatS, oCatH, lstH, oIxT, oIxL, oIxS, oSlT, oSlL, oNeg, oLenA, lenA, oSum, oAny, oAll, oTuple, oList, oInt1, oIsi, oAbs, rdD, scD, truD, tyD, scal, and_assoc])
/-! places_of -/
def gPlaces (n : Nat) : SF := fun c as k _ => ∃ d, as = [.im d] ∧ Tm n d ∧ k c (.own (.lst ((plN n d).map encP)))
theorem upFrom_len (lo : Int) (n : Nat) : (upFrom lo n).length = n := by simp [upFrom]
theorem from_split {lo : Int} {n : Nat} {pre post : List D} {x : D} (h : upFrom lo n = pre ++ x :: post) : x = .int (lo + (pre.length : Int)) ∧ pre.length < n ∧ pre = upFrom lo pre.length := by
  have hl : pre.length < n := by
    have := congrArg List.length h
    rw [upFrom_len, List.length_append, List.length_cons] at this
    omega
  have hx : (upFrom lo n)[pre.length]? = some x := by rw [h]; simp
  refine ⟨?_, hl, ?_⟩
  · simp [upFrom, hl] at hx
    exact hx.symm
  · have : pre = (upFrom lo n).take pre.length := by rw [h]; simp
    rw [this]
    unfold upFrom
    rw [← List.map_take, List.take_range, List.length_map, List.length_range, Nat.min_eq_left (Nat.le_of_lt hl)]
theorem plS_snoc (f : D → List (List Nat)) : ∀ (ds : List D) (i : Nat) (d : D), plS f i (ds ++ [d]) = plS f i ds ++ (f d).map ((i + ds.length) :: ·)
  | [], i, d => by simp [plS]
  | e :: ds, i, d => by
    simp only [List.cons_append, plS, plS_snoc f ds (i + 1) d, List.append_assoc, List.length_cons]
    congr 3
    funext q
    congr 1
    omega
theorem encP_cons (i : Nat) (p : List Nat) : encP (i :: p) = .tup (.int (i : Int) :: p.map fun (j : Nat) => D.int (j : Int)) := rfl
theorem p_places (n : Nat) (hn : n ≤ 8) (c : Nat) (as : List Sl) (k : Nat → Sl → Prop) (kx : Nat → XD → Prop) (hl : as.length = 1) (h : gPlaces (n + 1) c as k kx) : b_places_of gUnk (gPlaces n) (endsF k kx) ⟨c, startΓ 1 4 as, false⟩ := by
  obtain ⟨d, rfl, hd, h⟩ := h
  have hbig : (plN (n + 1) d).length ≤ 1000000 := Nat.le_trans (plN_len hd) (Nat.le_trans (Nat.pow_le_pow_right (by omega) (show n + 1 ≤ 9 by omega)) (by decide))
  unfold b_places_of
  cases hd with
  | u hx hl =>
    walk_at "ev"
    simp [gUnk]
    rw [plN_str] at h
    exact h
  | @a _ f ds hf hl hds =>
    walk_at "ev"
    simp [gUnk]
    have hb : ([] :: plS (plN n) 0 ds).length ≤ 1000000 := hbig
    have h : k c (.own (.lst (([] :: plS (plN n) 0 ds).map encP))) := h
    have e0 : ((ds.length : Int) + 1 - 1).toNat = ds.length := by omega
    refine ⟨by omega, ?_⟩
    refine loopD_run (fun pre s => ∃ x y, s = ⟨c, [.im (.tup (.str f :: ds)), .own (.lst (([] :: plS (plN n) 0 (ds.take pre.length)).map encP)), x, y], false⟩) ⟨.no, .no, by simp [plS, encP]⟩ ?_ ?_
    · rintro pre x post s N hp ⟨y, z, rfl⟩ hN
      obtain ⟨rfl, hlt, _⟩ := from_split hp
      have hat : atI (D.str f :: ds) (1 + (pre.length : Int)) = some ds[pre.length] := by
        rw [show (1 : Int) + (pre.length : Int) = ((pre.length + 1 : Nat) : Int) by omega]
        exact atI_nat (by rw [List.getElem?_cons_succ]; exact List.getElem?_eq_getElem hlt)
      walk_at "ev"
      refine ⟨_, hat, _, rfl, hds _ (List.getElem_mem hlt), _, rfl, rfl, ?_⟩
      -- the inner loop
      have hstep : ds.take (pre.length + 1) = ds.take pre.length ++ [ds[pre.length]] := by rw [List.take_add_one, List.getElem?_eq_getElem hlt]; rfl
      have hbd : ([] :: plS (plN n) 0 (ds.take (pre.length + 1))).length ≤ 1000000 := by
        have e : plS (plN n) 0 ds = plS (plN n) 0 (ds.take (pre.length + 1)) ++ plS (plN n) (pre.length + 1) (ds.drop (pre.length + 1)) := by
          have key : ∀ (xs ys : List D) (i : Nat), plS (plN n) i (xs ++ ys) = plS (plN n) i xs ++ plS (plN n) (i + xs.length) ys := by
            intro xs
            induction xs with
            | nil => intro ys i; simp [plS]
            | cons a xs ih =>
              intro ys i
              simp only [List.cons_append, plS, ih, List.append_assoc, List.length_cons]
              congr 3
              omega
          have := key (ds.take (pre.length + 1)) (ds.drop (pre.length + 1)) 0
          rw [List.take_append_drop] at this
          rw [this, List.length_take, Nat.min_eq_left (by omega), Nat.zero_add]
        rw [List.length_cons] at hb ⊢
        rw [e, List.length_append] at hb
        omega
      rw [hstep, plS_snoc, List.length_take, Nat.min_eq_left (Nat.le_of_lt hlt), Nat.zero_add, List.length_cons, List.length_append, List.length_map] at hbd
      refine loopD_run (fun q s => ∃ x, s = ⟨c, [.im (.tup (.str f :: ds)), .own (.lst (([] :: (plS (plN n) 0 (ds.take pre.length) ++ ((plN n ds[pre.length]).take q.length).map (pre.length :: ·))).map encP)), .im (.int (1 + (pre.length : Int))), x], false⟩) ⟨z, by simp⟩ ?_ ?_
      · rintro q x post2 s2 N2 hp2 ⟨z2, rfl⟩ hN2
        have hq : q.length < (plN n ds[pre.length]).length := by
          have := congrArg List.length hp2
          rw [List.length_map, List.length_append, List.length_cons] at this
          omega
        have hx : x = encP (plN n ds[pre.length])[q.length] := by
          have : ((plN n ds[pre.length]).map encP)[q.length]? = some x := by rw [hp2]; simp
          rw [List.getElem?_map, List.getElem?_eq_getElem hq] at this
          exact (Option.some.inj this).symm
        have hpl : ((plN n ds[pre.length])[q.length]).length ≤ n := pl_len (List.getElem_mem hq)
        subst hx
        have es : (plN n ds[pre.length]).take (q.length + 1) = (plN n ds[pre.length]).take q.length ++ [(plN n ds[pre.length])[q.length]] := by rw [List.take_add_one, List.getElem?_eq_getElem hq]; rfl
        unfold encP
        walk_at "ev"
        refine ⟨by omega, by omega, ?_⟩
        have key := hN2 _ ⟨.im (encP (plN n ds[pre.length])[q.length]), rfl⟩
        have e3 : (1 : Int) + (pre.length : Int) - 1 = (pre.length : Int) := by omega
        rw [List.length_append, List.length_singleton, es] at key
        unfold encP at key
        simp [Function.comp_def] at key
        rw [List.take_add_one] at key
        simp [hq] at key
        rw [e3]
        simpa [Function.comp_def] using key
      · rintro s2 ⟨z2, rfl⟩
        rw [List.length_append, List.length_singleton, hstep, plS_snoc, List.length_take, Nat.min_eq_left (Nat.le_of_lt hlt), Nat.zero_add] at hN
        rw [List.length_map, List.take_length]
        exact hN _ ⟨_, _, rfl⟩
    · rintro s ⟨x, y, rfl⟩
      walk_at "ev"
      rw [upFrom_len, List.take_length]
      simpa [encP] using h
end K86

/-! ## P86c -/
set_option Elab.async false
set_option linter.all false
set_option autoImplicit false
set_option maxRecDepth 100000
set_option maxHeartbeats 1000000
namespace K86
open PySem L2 DL
local macro_rules | `(tactic| walk_at "ev") => `(tactic| simp [dSeq, dIfS, dRet, dRetN, dDrop, dSet, dAug, dApp, dSetIx, dAsgT, dNext, dBrk, dCnt, dRaise, dFor, dIt, dItT, dRng1, dRng2, gN, gT2, gT3, dTest, dAnd, dOr, dNot, dAndV, dOrV, dNotV, dIf, dTru, dTrue, dCall, dCB, dCons, dNil, dVar, dFrz, dMov, dC, dBin, dBinK, dUn, dTup, dLst, dSl, dPart, dNoP, dChain, dLc, wipeΓ,
  startΓ, endsF, imm, pend, retable, argIm, ims, oI, oIC, oEqS, oNeS, oCatT, oCatS, oCatH, lstH, oIxT, oIxL, oIxS, oSlT, oSlL, oNeg, oLenA, lenA, oSum, oAny, oAll, oTuple, oList, oInt1, oIsi, oAbs, rdD, scD, truD, tyD, scal, and_assoc])
/-! term_size -/
def gSize (n : Nat) : SF := fun c as k _ => ∃ d, as = [.im d] ∧ Tm n d ∧ k c (.im (.int ((plN n d).length : Int)))
theorem plS_length (f : D → List (List Nat)) : ∀ (ds : List D) (i : Nat), ((plS f i ds).length : Int) = (ds.map fun e => ((f e).length : Int)).sum
  | [], i => rfl
  | d :: ds, i => by
    simp only [plS, List.length_append, List.length_map, List.map_cons, List.sum_cons]
    have := plS_length f ds (i + 1)
    omega
theorem ints_map (g : D → Int) : ∀ (ds : List D), intsD (ds.map fun e => D.int (g e)) = some (ds.map g)
  | [] => rfl
  | d :: ds => by
    have := ints_map g ds
    simp [intsD, this]
theorem p_size (n : Nat) (c : Nat) (as : List Sl) (k : Nat → Sl → Prop) (kx : Nat → XD → Prop) (hl : as.length = 1) (h : gSize (n + 1) c as k kx) : b_term_size gUnk (gSize n) (endsF k kx) ⟨c, startΓ 1 2 as, false⟩ := by
  obtain ⟨d, rfl, hd, h⟩ := h
  unfold b_term_size
  cases hd with
  | u hx hl =>
    walk_at "ev"
    simp [gUnk]
    rw [plN_str] at h
    exact h
  | @a _ f ds hf hl hds =>
    walk_at "ev"
    simp [gUnk]
    rw [cut_tail]
    refine loopC_map (fun e => D.int ((plN n e).length : Int)) ds [] c (fun e he ky kn hk => ?_) (by simp; omega) ?_
    · unfold stepC
      walk_at "ev"
      exact ⟨_, rfl, hds e he, _, rfl, hk⟩
    · refine ⟨_, by rw [List.nil_append]; exact ints_map (fun e => ((plN n e).length : Int)) ds, ?_⟩
      rw [← plS_length (plN n) ds 0]
      have h : k c (.im (.int (((([] : List Nat) :: plS (plN n) 0 ds).length : Nat) : Int))) := h
      rw [List.length_cons] at h
      rw [show (1 : Int) + ((plS (plN n) 0 ds).length : Int) = (((plS (plN n) 0 ds).length + 1 : Nat) : Int) by omega]
      exact h
theorem p_size0 {c : Nat} {as : List Sl} {k : Nat → Sl → Prop} {kx : Nat → XD → Prop} (h : gSize 0 c as k kx) : gSize 1 c as k kx := by
  obtain ⟨d, rfl, hd, h⟩ := h
  cases hd with
  | u hx hl => exact ⟨_, rfl, .u hx hl, by rw [plN_str] at h ⊢; exact h⟩
theorem p_places0 {c : Nat} {as : List Sl} {k : Nat → Sl → Prop} {kx : Nat → XD → Prop} (h : gPlaces 0 c as k kx) : gPlaces 1 c as k kx := by
  obtain ⟨d, rfl, hd, h⟩ := h
  cases hd with
  | u hx hl => exact ⟨_, rfl, .u hx hl, by rw [plN_str] at h ⊢; exact h⟩
end K86

/-! ## P86d -/
set_option Elab.async false
set_option linter.all false
set_option autoImplicit false
set_option maxRecDepth 100000
set_option maxHeartbeats 1000000
namespace K86
open PySem L2 DL
local macro_rules | `(tactic| walk_at "ev") => `(tactic| simp [dSeq, dIfS, dRet, dRetN, dDrop, dSet, dAug, dApp, dSetIx, dAsgT, dNext, dBrk, dCnt, dRaise, dFor, dIt, dItT, dRng1, dRng2, gN, gT2, gT3, dTest, dAnd, dOr, dNot, dAndV, dOrV, dNotV, dIf, dTru, dTrue, dCall, dCB, dCons, dNil, dVar, dFrz, dMov, dC, dBin, dBinK, dUn, dTup, dLst, dSl, dPart, dNoP, dChain, dLc, wipeΓ,
  startΓ, endsF, imm, pend, retable, argIm, ims, oI, oIC, oEqS, oNeS, oCatT, oCatS, oCatH, lstH, oIxT, oIxL, oIxS, oSlT, oSlL, oNeg, oLenA, lenA, oSum, oAny, oAll, oTuple, oList, oInt1, oIsi, oAbs, rdD, scD, truD, tyD, scal, and_assoc])
/-! dedupe -/
def addD (acc : List D) (x : D) : List D := if (acc.any fun z => eqD z x) = true then acc else acc ++ [x]
def prt (n : Nat) (d : D) : List D := (plN n d).map fun p => (atP (ip p) d).getD .non
theorem encP_ip (p : List Nat) : encP p = .tup ((ip p).map D.int) := by simp [encP, ip, Function.comp_def]
def gParts (n : Nat) : SF := fun c as k _ => ∃ d, as = [.im d] ∧ Tm n d ∧ k c (.own (.lst ((prt n d).foldl addD [])))
theorem prt_len {n : Nat} {d : D} : (prt n d).length = (plN n d).length := by unfold prt; rw [List.length_map]
theorem prt_ok {n : Nat} {d : D} (h : Tm n d) : ∀ x ∈ prt n d, Tm n x := fun x hx => by
  obtain ⟨p, hp, rfl⟩ := List.mem_map.mp hx
  obtain ⟨e, h1, h2⟩ := pl_at h p hp
  rw [h1]; exact h2
theorem addD_mem {acc : List D} {x y : D} (h : y ∈ addD acc x) : y ∈ acc ∨ y = x := by
  unfold addD at h
  split at h
  · exact .inl h
  · rcases List.mem_append.mp h with h | h
    · exact .inl h
    · exact .inr (List.mem_singleton.mp h)
theorem fold_mem {y : D} : ∀ {xs acc : List D}, y ∈ xs.foldl addD acc → y ∈ acc ∨ y ∈ xs
  | [], _, h => .inl h
  | x :: xs, acc, h => by
    rcases fold_mem (xs := xs) h with h | h
    · rcases addD_mem h with h | h
      · exact .inl h
      · exact .inr (by simp [h])
    · exact .inr (by simp [h])
theorem addD_len {acc : List D} {x : D} : (addD acc x).length ≤ acc.length + 1 := by
  unfold addD
  split
  · omega
  · rw [List.length_append, List.length_singleton]; exact Nat.le_refl _
theorem fold_len : ∀ {xs acc : List D}, (xs.foldl addD acc).length ≤ acc.length + xs.length
  | [], _ => by simp
  | x :: xs, acc => by
    have := fold_len (xs := xs) (acc := addD acc x)
    have := addD_len (acc := acc) (x := x)
    simp only [List.foldl_cons, List.length_cons]; omega
theorem lst_ok {n : Nat} {ds : List D} (h : ∀ x ∈ ds, Tm n x) (hn : n ≤ 60) : okD (.lst ds) := by
  refine okN_ok (n := n + 1) ?_ (by omega)
  unfold okN
  rw [List.all_eq_true]
  exact fun x hx => (h x hx).ok
theorem p_parts (C : Addr) (n : Nat) (hn : n ≤ 9) (c : Nat) (as : List Sl) (k : Nat → Sl → Prop) (kx : Nat → XD → Prop) (hl : as.length = 1) (h : gParts n c as k kx) : b_parts_of (gPlaces n) (gPart C) (endsF k kx) ⟨c, startΓ 1 4 as, false⟩ := by
  obtain ⟨d, rfl, hd, h⟩ := h
  have hbig : (plN n d).length ≤ 1000000 := Nat.le_trans (plN_len hd) (Nat.le_trans (Nat.pow_le_pow_right (by omega) hn) (by decide))
  unfold b_parts_of
  walk_at "ev"
  refine ⟨_, rfl, hd, _, rfl, rfl, ?_⟩
  refine loopD_run (fun pre s => ∃ x y, s = ⟨c, [.im d, .own (.lst (((prt n d).take pre.length).foldl addD [])), x, y], false⟩) ⟨.no, .no, by simp⟩ ?_ ?_
  · rintro pre x post s N hp ⟨y, z, rfl⟩ hN
    have hq : pre.length < (plN n d).length := by
      have := congrArg List.length hp
      rw [List.length_map, List.length_append, List.length_cons] at this
      omega
    have hx : x = encP (plN n d)[pre.length] := by
      have : ((plN n d).map encP)[pre.length]? = some x := by rw [hp]; simp
      rw [List.getElem?_map, List.getElem?_eq_getElem hq] at this
      exact (Option.some.inj this).symm
    subst hx
    obtain ⟨e, he, hte⟩ := pl_at hd _ (List.getElem_mem hq)
    have hqq : pre.length < (prt n d).length := by unfold prt; rw [List.length_map]; exact hq
    have hpe : (prt n d)[pre.length] = e := by simp only [prt, List.getElem_map, he, Option.getD_some]
    have hst : (prt n d).take (pre.length + 1) = (prt n d).take pre.length ++ [e] := by rw [List.take_add_one, List.getElem?_eq_getElem hqq, hpe]; rfl
    have hacc : ∀ x ∈ ((prt n d).take pre.length).foldl addD [], Tm n x := fun x hx => by
      rcases fold_mem hx with h | h
      · cases h
      · exact prt_ok hd x (List.mem_of_mem_take h)
    have hlen : (((prt n d).take pre.length).foldl addD []).length ≤ 1000000 := by
      have := fold_len (xs := (prt n d).take pre.length) (acc := [])
      rw [List.length_take, prt_len, List.length_nil] at this
      omega
    have key := hN ⟨c, [.im d, .own (.lst (((prt n d).take (pre.length + 1)).foldl addD [])), .im (encP (plN n d)[pre.length]), .im e], false⟩ ⟨_, _, by rw [List.length_append, List.length_singleton]⟩
    rw [hst, List.foldl_append, List.foldl_cons, List.foldl_nil] at key
    rw [encP_ip] at key ⊢
    walk_at "ev"
    refine ⟨_, _, rfl, ⟨n, hd⟩, ?_⟩
    rw [he]
    simp only [oNotIn, rdD]
    refine ⟨trivial, ?_⟩
    generalize ((prt n d).take pre.length).foldl addD [] = acc at *
    unfold addD at key
    refine ⟨e, acc, rfl, rfl, okN_ok hte.ok (by omega), lst_ok hacc (by omega), ?_⟩
    cases hb : acc.any fun z => eqD z e with
    | true =>
      rw [hb] at key
      exact .inl ⟨rfl, key⟩
    | false =>
      rw [hb] at key
      exact .inr ⟨rfl, hlen, key⟩
  · rintro s ⟨x, y, rfl⟩
    walk_at "ev"
    rw [List.take_of_length_le (by rw [prt_len]; exact Nat.le_refl _)]
    exact h
/-! the unknown names -/
def addS (acc : List Str) (x : Str) : List Str := if x ∈ acc then acc else acc ++ [x]
theorem addS_sub {acc : List Str} {x y : Str} (h : y ∈ acc) : y ∈ addS acc x := by
  unfold addS; split
  · exact h
  · exact List.mem_append_left _ h
theorem addS_self {acc : List Str} {x : Str} : x ∈ addS acc x := by
  unfold addS; split
  · assumption
  · simp
theorem foldS_sub {y : Str} : ∀ {xs acc : List Str}, y ∈ acc → y ∈ xs.foldl addS acc
  | [], _, h => h
  | x :: xs, acc, h => foldS_sub (xs := xs) (addS_sub h)
theorem addS_in {acc : List Str} {x : Str} (h : x ∈ acc) : addS acc x = acc := by unfold addS; rw [if_pos h]
theorem foldS_fold : ∀ (xs acc b : List Str), (xs.foldl addS b).foldl addS acc = xs.foldl addS (b.foldl addS acc)
  | [], _, _ => rfl
  | x :: xs, acc, b => by
    rw [List.foldl_cons, foldS_fold xs acc (addS b x), List.foldl_cons]
    congr 1
    by_cases h : x ∈ b
    · rw [addS_in h, addS_in]
      clear foldS_fold
      induction b generalizing acc with
      | nil => cases h
      | cons y b ih =>
        rw [List.foldl_cons]
        rcases List.mem_cons.mp h with rfl | h
        · exact foldS_sub addS_self
        · exact ih (addS acc y) h
    · rw [show addS b x = b ++ [x] by unfold addS; rw [if_neg h], List.foldl_append]; rfl
def strN : Nat → D → List Str
  | n, d => match d with
    | .str x => [x]
    | .tup ds => match n with
      | 0 => []
      | n + 1 => ds.tail.flatMap (strN n)
    | _ => []
theorem strN_str (n : Nat) (x : Str) : strN n (.str x) = [x] := by unfold strN; rfl
theorem strN_tup (n : Nat) (f : D) (ds : List D) : strN (n + 1) (.tup (f :: ds)) = ds.flatMap (strN n) := by
  conv => lhs; unfold strN
  rfl
theorem foldS_mem {y : Str} : ∀ {xs acc : List Str}, y ∈ xs.foldl addS acc → y ∈ acc ∨ y ∈ xs
  | [], _, h => .inl h
  | x :: xs, acc, h => by
    rcases foldS_mem (xs := xs) h with h | h
    · unfold addS at h
      split at h
      · exact .inl h
      · rcases List.mem_append.mp h with h | h
        · exact .inl h
        · exact .inr (by simp [List.mem_singleton.mp h])
    · exact .inr (by simp [h])
theorem foldS_len : ∀ {xs acc : List Str}, (xs.foldl addS acc).length ≤ acc.length + xs.length
  | [], _ => by simp
  | x :: xs, acc => by
    have := foldS_len (xs := xs) (acc := addS acc x)
    have : (addS acc x).length ≤ acc.length + 1 := by
      unfold addS
      split
      · omega
      · rw [List.length_append, List.length_singleton]; exact Nat.le_refl _
    simp only [List.foldl_cons, List.length_cons]; omega
theorem flat_len {α β : Type} {f : α → List β} {b : Nat} : ∀ {ds : List α}, (∀ d ∈ ds, (f d).length ≤ b) → (ds.flatMap f).length ≤ ds.length * b
  | [], _ => by simp
  | d :: ds, h => by
    rw [List.flatMap_cons, List.length_append, List.length_cons, Nat.succ_mul]
    have := h d (by simp)
    have := flat_len (ds := ds) fun x hx => h x (by simp [hx])
    omega
theorem strN_len {n : Nat} {d : D} (h : Tm n d) : (strN n d).length ≤ 4 ^ n := by
  induction h with
  | @u n x hx _ => 
    rw [strN_str]
    exact Nat.one_le_pow _ _ (by omega)
  | @a n f ds _ hl _ ih =>
    rw [strN_tup]
    have := flat_len ih
    have : ds.length * 4 ^ n ≤ 3 * 4 ^ n := Nat.mul_le_mul_right _ hl
    rw [Nat.pow_succ]
    omega
theorem strN_ok {n : Nat} {d : D} (h : Tm n d) : ∀ x ∈ strN n d, PyData.strOk x = true ∧ x.length ≤ 1000000 := by
  induction h with
  | @u n x hx hl => 
    rw [strN_str]
    intro y hy
    rw [List.mem_singleton.mp hy]; exact ⟨hx, hl⟩
  | @a n f ds _ hl _ ih =>
    rw [strN_tup]
    intro y hy
    obtain ⟨d, hd, h2⟩ := List.mem_flatMap.mp hy
    exact ih d hd y h2
end K86

/-! ## P86e -/
set_option Elab.async false
set_option linter.all false
set_option autoImplicit false
set_option maxRecDepth 100000
set_option maxHeartbeats 1000000
namespace K86
open PySem L2 DL
local macro_rules | `(tactic| walk_at "ev") => `(tactic| simp [dSeq, dIfS, dRet, dRetN, dDrop, dSet, dAug, dApp, dSetIx, dAsgT, dNext, dBrk, dCnt, dRaise, dFor, dIt, dItT, dRng1, dRng2, gN, gT2, gT3, dTest, dAnd, dOr, dNot, dAndV, dOrV, dNotV, dIf, dTru, dTrue, dCall, dCB, dCons, dNil, dVar, dFrz, dMov, dC, dBin, dBinK, dUn, dTup, dLst, dSl, dPart, dNoP, dChain, dLc, wipeΓ,
  startΓ, endsF, imm, pend, retable, argIm, ims, oI, oIC, oEqS, oNeS, oCatT, oCatS, oCatH, lstH, oIxT, oIxL, oIxS, oSlT, oSlL, oNeg, oLenA, lenA, oSum, oAny, oAll, oTuple, oList, oInt1, oIsi, oAbs, rdD, scD, truD, tyD, scal, and_assoc])
/-! unknowns_of -/
def unk (n : Nat) (d : D) : List Str := (strN n d).foldl addS []
def gUnks (n : Nat) : SF := fun c as k _ => ∃ d, as = [.im d] ∧ Tm n d ∧ k c (.own (.lst ((unk n d).map D.str)))
theorem eq_str (y x : Str) : eqD (.str y) (.str x) = decide (y = x) := by
  simp only [eqD, D.py, PyData.eqv]
  first | rfl | (by_cases h : y = x <;> simp [h])
theorem any_str {x : Str} : ∀ {acc : List Str}, ((acc.map D.str).any fun z => eqD z (.str x)) = decide (x ∈ acc)
  | [] => by simp
  | y :: acc => by
    rw [List.map_cons, List.any_cons, any_str (x := x) (acc := acc), eq_str]
    by_cases h : x ∈ acc
    · rw [decide_eq_true h, decide_eq_true (List.mem_cons_of_mem y h), Bool.or_true]
    · by_cases h2 : y = x
      · rw [decide_eq_true h2, decide_eq_true (List.mem_cons.mpr (.inl h2.symm)), Bool.true_or]
      · rw [decide_eq_false h, decide_eq_false h2, decide_eq_false (fun q => (List.mem_cons.mp q).elim (fun e => h2 e.symm) h)]; rfl
theorem strs_ok {acc : List Str} (h : ∀ x ∈ acc, PyData.strOk x = true) : okD (.lst (acc.map D.str)) := by
  refine okN_ok (n := 1) ?_ (by omega)
  unfold okN
  rw [List.all_eq_true]
  intro x hx
  obtain ⟨y, hy, rfl⟩ := List.mem_map.mp hx
  unfold okN
  exact h y hy
theorem map_split {α : Type} {f : α → D} {xs : List α} {pre post : List D} {x : D} (hp : xs.map f = pre ++ x :: post) : ∃ h : pre.length < xs.length, x = f xs[pre.length] ∧ pre = (xs.take pre.length).map f := by
  have hq : pre.length < xs.length := by
    have := congrArg List.length hp
    rw [List.length_map, List.length_append, List.length_cons] at this
    omega
  refine ⟨hq, ?_, ?_⟩
  · have : (xs.map f)[pre.length]? = some x := by rw [hp]; simp
    rw [List.getElem?_map, List.getElem?_eq_getElem hq] at this
    exact (Option.some.inj this).symm
  · rw [List.map_take, hp]; simp
theorem own_split {xs pre post : List D} {x : D} (hp : xs = pre ++ x :: post) : ∃ h : pre.length < xs.length, x = xs[pre.length] ∧ pre = xs.take pre.length := by
  have := map_split (f := id) (xs := xs) (by rw [List.map_id]; exact hp)
  simpa using this
theorem p_unks (n : Nat) (hn : n ≤ 8) (c : Nat) (as : List Sl) (k : Nat → Sl → Prop) (kx : Nat → XD → Prop) (hl : as.length = 1) (h : gUnks (n + 1) c as k kx) : b_unknowns_of gUnk (gUnks n) (endsF k kx) ⟨c, startΓ 1 4 as, false⟩ := by
  obtain ⟨d, rfl, hd, h⟩ := h
  have hbig : (strN (n + 1) d).length ≤ 1000000 := Nat.le_trans (strN_len hd) (Nat.le_trans (Nat.pow_le_pow_right (by omega) (show n + 1 ≤ 9 by omega)) (by decide))
  have hsok := strN_ok hd
  unfold b_unknowns_of
  cases hd with
  | u hx hl =>
    walk_at "ev"
    simp [gUnk]
    unfold unk at h
    rw [strN_str] at h
    exact h
  | @a _ f ds hf hl hds =>
    rw [strN_tup] at hbig hsok
    walk_at "ev"
    simp [gUnk]
    rw [cut_tail]
    refine loopD_run (fun pre s => ∃ x y, s = ⟨c, [.im (.tup (.str f :: ds)), .own (.lst ((((ds.take pre.length).flatMap (strN n)).foldl addS []).map D.str)), x, y], false⟩) ⟨.no, .no, by simp⟩ ?_ ?_
    · rintro pre x post s N hp ⟨y, z, rfl⟩ hN
      obtain ⟨hlt, rfl, hpre⟩ := own_split hp
      have hst : ds.take (pre.length + 1) = ds.take pre.length ++ [ds[pre.length]] := by rw [List.take_add_one, List.getElem?_eq_getElem hlt]; rfl
      have hsub : ∀ x ∈ (ds.take (pre.length + 1)).flatMap (strN n), x ∈ ds.flatMap (strN n) := fun x hx => by
        obtain ⟨d, hd, h2⟩ := List.mem_flatMap.mp hx
        exact List.mem_flatMap.mpr ⟨d, List.mem_of_mem_take hd, h2⟩
      have hbd : ((ds.take (pre.length + 1)).flatMap (strN n)).length ≤ 1000000 := by
        have e : ds.flatMap (strN n) = (ds.take (pre.length + 1)).flatMap (strN n) ++ (ds.drop (pre.length + 1)).flatMap (strN n) := by
          rw [← List.flatMap_append, List.take_append_drop]
        rw [e, List.length_append] at hbig
        omega
      have key := hN
      rw [List.length_append, List.length_singleton, hst, List.flatMap_append] at key
      rw [hst, List.flatMap_append] at hsub hbd
      simp only [List.flatMap_cons, List.flatMap_nil, List.append_nil] at key hsub hbd
      rw [List.foldl_append] at key
      have kk : (strN n ds[pre.length]).foldl addS (((ds.take pre.length).flatMap (strN n)).foldl addS []) = (unk n ds[pre.length]).foldl addS (((ds.take pre.length).flatMap (strN n)).foldl addS []) := by
        unfold unk
        rw [foldS_fold]; rfl
      rw [kk] at key
      have hu : ∀ x ∈ unk n ds[pre.length], x ∈ strN n ds[pre.length] := fun x hx => (foldS_mem hx).resolve_left (by simp)
      have hul : (unk n ds[pre.length]).length ≤ (strN n ds[pre.length]).length := by
        have := foldS_len (xs := strN n ds[pre.length]) (acc := [])
        rw [List.length_nil, Nat.zero_add] at this
        exact this
      have ha : ∀ x ∈ ((ds.take pre.length).flatMap (strN n)).foldl addS [], x ∈ (ds.take pre.length).flatMap (strN n) := fun x hx => (foldS_mem hx).resolve_left (by simp)
      have hal : (((ds.take pre.length).flatMap (strN n)).foldl addS []).length ≤ ((ds.take pre.length).flatMap (strN n)).length := by
        have := foldS_len (xs := (ds.take pre.length).flatMap (strN n)) (acc := [])
        rw [List.length_nil, Nat.zero_add] at this
        exact this
      rw [List.length_append] at hbd
      generalize ((ds.take pre.length).flatMap (strN n)).foldl addS [] = acc at *
      walk_at "ev"
      refine ⟨_, rfl, hds _ (List.getElem_mem hlt), _, rfl, rfl, ?_⟩
      refine loopD_run (fun q s => ∃ x, s = ⟨c, [.im (.tup (.str f :: ds)), .own (.lst ((((unk n ds[pre.length]).take q.length).foldl addS acc).map D.str)), .im ds[pre.length], x], false⟩) ⟨z, by simp⟩ ?_ ?_
      · rintro q x post2 s2 N2 hp2 ⟨z2, rfl⟩ hN2
        obtain ⟨hq, rfl, _⟩ := map_split hp2
        have es : (unk n ds[pre.length]).take (q.length + 1) = (unk n ds[pre.length]).take q.length ++ [(unk n ds[pre.length])[q.length]] := by rw [List.take_add_one, List.getElem?_eq_getElem hq]; rfl
        have key2 := hN2 _ ⟨.im (.str (unk n ds[pre.length])[q.length]), rfl⟩
        rw [List.length_append, List.length_singleton, es, List.foldl_append] at key2
        simp only [List.foldl_cons, List.foldl_nil] at key2
        have hm : ∀ x ∈ ((unk n ds[pre.length]).take q.length).foldl addS acc, PyData.strOk x = true := fun x hx => by
          rcases foldS_mem hx with h | h
          · exact (hsok x (hsub x (List.mem_append_left _ (ha x h)))).1
          · exact (hsok x (hsub x (List.mem_append_right _ (hu x (List.mem_of_mem_take h))))).1
        have hm2 : PyData.strOk (unk n ds[pre.length])[q.length] = true := (hsok _ (hsub _ (List.mem_append_right _ (hu _ (List.getElem_mem hq))))).1
        have hl2 : (((unk n ds[pre.length]).take q.length).foldl addS acc).length ≤ 1000000 := by
          have := foldS_len (xs := (unk n ds[pre.length]).take q.length) (acc := acc)
          rw [List.length_take] at this
          omega
        generalize ((unk n ds[pre.length]).take q.length).foldl addS acc = acc2 at *
        generalize (unk n ds[pre.length])[q.length] = x at *
        unfold addS at key2
        walk_at "ev"
        simp only [oNotIn, rdD]
        refine ⟨_, _, rfl, rfl, okN_ok (n := 0) (by unfold okN; exact hm2), strs_ok hm, ?_⟩
        rw [any_str]
        by_cases hx : x ∈ acc2
        · rw [if_pos hx] at key2
          exact .inl ⟨by rw [decide_eq_true hx]; rfl, key2⟩
        · rw [if_neg hx, List.map_append] at key2
          exact .inr ⟨by rw [decide_eq_false hx]; rfl, hl2, key2⟩
      · rintro s2 ⟨z2, rfl⟩
        rw [List.length_map, List.take_length]
        exact key _ ⟨_, _, rfl⟩
    · rintro s ⟨x, y, rfl⟩
      walk_at "ev"
      unfold unk at h
      rw [strN_tup] at h
      exact h
theorem p_unks0 {c : Nat} {as : List Sl} {k : Nat → Sl → Prop} {kx : Nat → XD → Prop} (h : gUnks 0 c as k kx) : gUnks 1 c as k kx := by
  obtain ⟨d, rfl, hd, h⟩ := h
  cases hd with
  | u hx hl => exact ⟨_, rfl, .u hx hl, by unfold unk at h ⊢; rw [strN_str] at h ⊢; exact h⟩
end K86

/-! ## P86f -/
set_option Elab.async false
set_option linter.all false
set_option autoImplicit false
set_option maxRecDepth 100000
set_option maxHeartbeats 1000000
namespace K86
open PySem L2 DL
local macro_rules | `(tactic| walk_at "ev") => `(tactic| simp [dSeq, dIfS, dRet, dRetN, dDrop, dSet, dAug, dApp, dSetIx, dAsgT, dNext, dBrk, dCnt, dRaise, dFor, dIt, dItT, dRng1, dRng2, gN, gT2, gT3, dTest, dAnd, dOr, dNot, dAndV, dOrV, dNotV, dIf, dTru, dTrue, dCall, dCB, dCons, dNil, dVar, dFrz, dMov, dC, dBin, dBinK, dUn, dTup, dLst, dSl, dPart, dNoP, dChain, dLc, wipeΓ,
  startΓ, endsF, imm, pend, retable, argIm, ims, oI, oIC, oEqS, oNeS, oCatT, oCatS, oCatH, lstH, oIxT, oIxL, oIxS, oSlT, oSlL, oNeg, oLenA, lenA, oSum, oAny, oAll, oTuple, oList, oInt1, oIsi, oAbs, rdD, scD, truD, tyD, scal, and_assoc])
/-! _law_places -/
theorem plS_split (f : D → List (List Nat)) : ∀ (xs ys : List D) (i : Nat), plS f i (xs ++ ys) = plS f i xs ++ plS f (i + xs.length) ys
  | [], ys, i => by simp [plS]
  | a :: xs, ys, i => by
    simp only [List.cons_append, plS, plS_split f xs ys (i + 1), List.append_assoc, List.length_cons]
    congr 3
    omega
theorem p_lplaces (n : Nat) (hn : n ≤ 8) (c : Nat) (as : List Sl) (k : Nat → Sl → Prop) (kx : Nat → XD → Prop) (hl : as.length = 1) (h : gPlaces (n + 1) c as k kx) : b_law_places (gPlaces n) (endsF k kx) ⟨c, startΓ 1 4 as, false⟩ := by
  obtain ⟨d, rfl, hd, h⟩ := h
  have hbig : (plN (n + 1) d).length ≤ 1000000 := Nat.le_trans (plN_len hd) (Nat.le_trans (Nat.pow_le_pow_right (by omega) (show n + 1 ≤ 9 by omega)) (by decide))
  unfold b_law_places
  cases hd with
  | u hx hl =>
    walk_at "ev"
    rw [plN_str] at h
    exact .inr ⟨by decide +kernel, h⟩
  | @a _ f ds hf hl hds =>
    walk_at "ev"
    have hb : ([] :: plS (plN n) 0 ds).length ≤ 1000000 := hbig
    have h : k c (.own (.lst (([] :: plS (plN n) 0 ds).map encP))) := h
    have e0 : ((ds.length : Int) + 1 - 1).toNat = ds.length := by omega
    refine .inl ⟨by decide +kernel, by omega, ?_⟩
    refine loopD_run (fun pre s => ∃ x y, s = ⟨c, [.im (.tup (.str f :: ds)), .own (.lst (([] :: plS (plN n) 0 (ds.take pre.length)).map encP)), x, y], false⟩) ⟨.no, .no, by simp [plS, encP]⟩ ?_ ?_
    · rintro pre x post s N hp ⟨y, z, rfl⟩ hN
      obtain ⟨rfl, hlt, _⟩ := from_split hp
      have hat : atI (D.str f :: ds) (1 + (pre.length : Int)) = some ds[pre.length] := by
        rw [show (1 : Int) + (pre.length : Int) = ((pre.length + 1 : Nat) : Int) by omega]
        exact atI_nat (by rw [List.getElem?_cons_succ]; exact List.getElem?_eq_getElem hlt)
      have hstep : ds.take (pre.length + 1) = ds.take pre.length ++ [ds[pre.length]] := by rw [List.take_add_one, List.getElem?_eq_getElem hlt]; rfl
      have hbd : ([] :: plS (plN n) 0 (ds.take (pre.length + 1))).length ≤ 1000000 := by
        have := plS_split (plN n) (ds.take (pre.length + 1)) (ds.drop (pre.length + 1)) 0
        rw [List.take_append_drop] at this
        rw [List.length_cons] at hb ⊢
        rw [this, List.length_append] at hb
        omega
      rw [hstep, plS_snoc, List.length_take, Nat.min_eq_left (Nat.le_of_lt hlt), Nat.zero_add, List.length_cons, List.length_append, List.length_map] at hbd
      walk_at "ev"
      refine ⟨_, hat, _, rfl, hds _ (List.getElem_mem hlt), _, rfl, ?_⟩
      refine loopC_map (fun d => .tup (.int (pre.length : Int) :: (match d with | .tup js => js | _ => []))) _ [] c (fun e he ky kn hk => ?_) (by rw [List.length_map]; simp; omega) ?_
      · obtain ⟨p, hp, rfl⟩ := List.mem_map.mp he
        have hpl := pl_len hp
        unfold stepC
        unfold encP at hk ⊢
        walk_at "ev"
        rw [show (1 : Int) + (pre.length : Int) - 1 = (pre.length : Int) by omega]
        exact ⟨by omega, hk⟩
      · refine ⟨by rw [List.nil_append, List.length_map, List.length_map]; omega, ?_⟩
        have key := hN _ ⟨.im (.int (1 + (pre.length : Int))), .no, rfl⟩
        rw [List.length_append, List.length_singleton, hstep, plS_snoc, List.length_take, Nat.min_eq_left (Nat.le_of_lt hlt), Nat.zero_add] at key
        rw [List.nil_append, List.map_map, show ((fun d : D => D.tup (.int (pre.length : Int) :: (match d with | .tup js => js | _ => []))) ∘ encP) = fun q => encP (pre.length :: q) from rfl]
        rw [List.map_cons, List.map_append, List.map_map] at key
        exact key
    · rintro s ⟨x, y, rfl⟩
      walk_at "ev"
      rw [upFrom_len, List.take_length]
      simpa [encP] using h
end K86

/-! ## P86g -/
set_option Elab.async false
set_option linter.all false
set_option autoImplicit false
set_option maxRecDepth 100000
set_option maxHeartbeats 1000000
namespace K86
open PySem L2 DL
local macro_rules | `(tactic| walk_at "ev") => `(tactic| simp [dSeq, dIfS, dRet, dRetN, dDrop, dSet, dAug, dApp, dSetIx, dAsgT, dNext, dBrk, dCnt, dRaise, dFor, dIt, dItT, dRng1, dRng2, gN, gT2, gT3, dTest, dAnd, dOr, dNot, dAndV, dOrV, dNotV, dIf, dTru, dTrue, dCall, dCB, dCons, dNil, dVar, dFrz, dMov, dC, dBin, dBinK, dUn, dTup, dLst, dSl, dPart, dNoP, dChain, dLc, wipeΓ,
  startΓ, endsF, imm, pend, retable, argIm, ims, oI, oIC, oEqS, oNeS, oCatT, oCatS, oCatH, lstH, oIxT, oIxL, oIxS, oSlT, oSlL, oNeg, oLenA, lenA, oSum, oAny, oAll, oTuple, oList, oInt1, oIsi, oAbs, rdD, scD, truD, tyD, scal, and_assoc])
/-! _law_put -/
def gPut (n : Nat) : SF := fun c as k _ => ∃ d is u e, as = [.im d, .im (.tup (is.map D.int)), .im u] ∧ is.length ≤ n ∧ (∃ m, Tm m d) ∧ putP is d u = some e ∧ k c (.im e)
theorem p_put (n : Nat) (c : Nat) (as : List Sl) (k : Nat → Sl → Prop) (kx : Nat → XD → Prop) (hl : as.length = 3) (h : gPut (n + 1) c as k kx) : b_law_put (gPut n) (endsF k kx) ⟨c, startΓ 3 4 as, false⟩ := by
  obtain ⟨d, is, u, e, rfl, hlen, ⟨m, hd⟩, he, h⟩ := h
  unfold b_law_put
  cases is with
  | nil =>
    walk_at "ev"
    simp only [putP, Option.some.injEq] at he
    subst he
    simpa using h
  | cons i is =>
    cases hd with
    | u hx hl => simp [putP] at he
    | @a m f ds hf hl hds =>
      simp only [putP] at he
      split at he
      · rename_i hi
        obtain ⟨e', h1, rfl⟩ := Option.map_eq_some_iff.mp he
        simp only [List.length_cons] at hi hlen
        have hj : (i + 1).toNat = i.toNat + 1 := by omega
        have a0 : ∀ x, atI (D.int i :: List.map D.int is) 0 = some x ↔ x = D.int i := fun x => by
          have : atI (D.int i :: List.map D.int is) 0 = some (D.int i) := atI_nat (j := 0) rfl
          rw [this]; exact ⟨fun h => (Option.some.inj h).symm, fun h => by rw [h]⟩
        walk_at "ev"
        simp [a0]
        have hlt : i.toNat < ds.length := by omega
        refine ⟨ds[i.toNat], atI_ok (by omega) (by rw [hj, List.getElem?_cons_succ]; exact List.getElem?_eq_getElem hlt), ?_⟩
        refine ⟨ds[i.toNat], is, u, e', by rw [cut_tail], by omega, ⟨m, hds _ (List.getElem_mem hlt)⟩, ?_, ?_⟩
        · rw [hj, List.getD_cons_succ, List.getD_eq_getElem?_getD, List.getElem?_eq_getElem hlt] at h1
          exact h1
        · have hix : ixN (D.str f :: ds).length (i + 1) = some (i + 1).toNat := by
            unfold ixN
            rw [if_pos (by omega), if_pos (by simp only [List.length_cons]; omega)]
          refine ⟨_, rfl, _, (a0 _).mpr rfl, i, rfl, e', rfl, _, rfl, _, hix, ?_⟩
          simp
          exact h
      · cases he
theorem p_put0 {n c : Nat} {as : List Sl} {k : Nat → Sl → Prop} {kx : Nat → XD → Prop} (h : gPut n c as k kx) : gPut (n + 1) c as k kx := by
  obtain ⟨d, is, u, e, rfl, hlen, hd, he, h⟩ := h
  exact ⟨d, is, u, e, rfl, by omega, hd, he, h⟩
theorem p_repl0 {C : Addr} {n c : Nat} {as : List Sl} {k : Nat → Sl → Prop} {kx : Nat → XD → Prop} (h : gRepl C n c as k kx) : gRepl C (n + 1) c as k kx := by
  obtain ⟨d, is, u, rfl, hlen, hd, h⟩ := h
  exact ⟨d, is, u, rfl, by omega, hd, h⟩
end K86

/-! ## P86h -/
set_option Elab.async false
set_option linter.all false
set_option autoImplicit false
set_option maxRecDepth 100000
set_option maxHeartbeats 1000000
namespace K86
open PySem L2 DL
local macro_rules | `(tactic| walk_at "ev") => `(tactic| simp [dSeq, dIfS, dRet, dRetN, dDrop, dSet, dAug, dApp, dSetIx, dAsgT, dNext, dBrk, dCnt, dRaise, dFor, dIt, dItT, dRng1, dRng2, gN, gT2, gT3, dTest, dAnd, dOr, dNot, dAndV, dOrV, dNotV, dIf, dTru, dTrue, dCall, dCB, dCons, dNil, dVar, dFrz, dMov, dC, dBin, dBinK, dUn, dTup, dLst, dSl, dPart, dNoP, dChain, dLc, wipeΓ,
  startΓ, endsF, imm, pend, retable, argIm, ims, oI, oIC, oEqS, oNeS, oCatT, oCatS, oCatH, lstH, oIxT, oIxL, oIxS, oSlT, oSlL, oNeg, oLenA, lenA, oSum, oAny, oAll, oTuple, oList, oInt1, oIsi, oAbs, rdD, scD, truD, tyD, scal, and_assoc])
/-! _law_term -/
def gTerm (n : Nat) : SF := fun c as k _ => as = [.rng, .im (.int (n : Int))] ∧ c + 4 ^ (n + 1) < 1000000000 ∧ ∀ d c', Tm (n + 1) d → c' ≤ c + 4 ^ (n + 1) → k c' (.im d)
theorem tm_leaf {f : Str} (h : PyData.strOk f = true) : Tm 1 (.tup [.str f]) := .a h (by simp) (by simp)
theorem take_of {c : Nat} {m : Int} {k : Nat → Sl → Prop} {kx : Nat → XD → Prop} (hm : 0 < m) (hc : c < 1000000000) (h : ∀ r : Int, 0 ≤ r → r < m → k (c + 1) (.im (.int r))) : gTake c [.rng, .im (.int m)] k kx := ⟨m, rfl, hm, hc, h⟩
theorem lt6 {r : Int} (h0 : 0 ≤ r) (h : r < 6) : r = 0 ∨ r = 1 ∨ r = 2 ∨ r = 3 ∨ r = 4 ∨ r = 5 := by omega
theorem f_ok : PyData.strOk ("f" : Str) = true := by decide +kernel
theorem g_ok : PyData.strOk ("g" : Str) = true := by decide +kernel
theorem h_ok : PyData.strOk ("h2" : Str) = true := by decide +kernel
theorem len_ok {α : Type} {xs : List α} (h : Nat.ble xs.length 1000000 = true) : xs.length ≤ 1000000 := Nat.le_of_ble_eq_true h
theorem if_or {c : Nat} {a b : Sl} {n kind : Int} {A B : SS} {E : DE} (h1 : (n = 0 ∨ kind < 3) → A E ⟨c, [a, .im (.int n), .im (.int kind), b], false⟩) (h2 : ¬ (n = 0 ∨ kind < 3) → B E ⟨c, [a, .im (.int n), .im (.int kind), b], false⟩) : dIfS (dOr (dTest (dBin oEqS (dVar 1) (dC (.int 0)))) (dTest (dBin oLt (dVar 2) (dC (.int 3))))) A B E ⟨c, [a, .im (.int n), .im (.int kind), b], false⟩ := by
  by_cases y : n = 0
  · subst y
    exact ⟨_, _, _, _, rfl, rfl, rfl, rfl, rfl, true, rfl, h1 (.inl rfl)⟩
  · have e : decide (V.int n = V.int 0) = false := decide_eq_false (by simp [y])
    refine ⟨_, _, _, _, rfl, rfl, rfl, rfl, rfl, false, by rw [e], kind, 3, rfl, rfl, decide (kind < 3), rfl, ?_⟩
    by_cases x : kind < 3
    · have e2 : decide (kind < 3) = true := decide_eq_true x
      rw [e2]; exact h1 (.inr x)
    · have e2 : decide (kind < 3) = false := decide_eq_false x
      rw [e2]; exact h2 (fun q => q.elim y x)
theorem if_lt {c : Nat} {a b d : Sl} {kind m : Int} {A B : SS} {E : DE} (h1 : kind < m → A E ⟨c, [a, d, .im (.int kind), b], false⟩) (h2 : ¬ kind < m → B E ⟨c, [a, d, .im (.int kind), b], false⟩) : dIfS (dTest (dBin oLt (dVar 2) (dC (.int m)))) A B E ⟨c, [a, d, .im (.int kind), b], false⟩ := by
  refine ⟨kind, m, rfl, rfl, _, rfl, ?_⟩
  by_cases x : kind < m
  · have e2 : decide (kind < m) = true := decide_eq_true x
    rw [e2]; exact h1 x
  · have e2 : decide (kind < m) = false := decide_eq_false x
    rw [e2]; exact h2 x
theorem p_term (n : Nat) (c : Nat) (as : List Sl) (k : Nat → Sl → Prop) (kx : Nat → XD → Prop) (hl : as.length = 2) (h : gTerm n c as k kx) : b_law_term gTake (gTerm (n - 1)) (endsF k kx) ⟨c, startΓ 2 4 as, false⟩ := by
  obtain ⟨rfl, hc, h⟩ := h
  have h4 : 4 ≤ 4 ^ (n + 1) := by rw [Nat.pow_succ]; have := Nat.one_le_pow n 4 (by omega); omega
  -- a leaf
  have leaf : ∀ (c' : Nat) (r : Int), c' ≤ c + 4 ^ (n + 1) → 0 ≤ r → r < 6 → ∃ d, atI [D.str "x", .str "y", .str "z9", .tup [.str "a"], .tup [.str "b"], .tup [.str "longname12"]] r = some d ∧ k c' (.im d) := fun c' r hc' h0 h6 => by
    rcases lt6 h0 h6 with rfl | rfl | rfl | rfl | rfl | rfl
    · exact ⟨_, rfl, h _ _ (.u (by decide +kernel) (by decide +kernel)) hc'⟩
    · exact ⟨_, rfl, h _ _ (.u (by decide +kernel) (by decide +kernel)) hc'⟩
    · exact ⟨_, rfl, h _ _ (.u (by decide +kernel) (by decide +kernel)) hc'⟩
    · exact ⟨_, rfl, h _ _ ((tm_leaf (by decide +kernel)).mono (by omega)) hc'⟩
    · exact ⟨_, rfl, h _ _ ((tm_leaf (by decide +kernel)).mono (by omega)) hc'⟩
    · exact ⟨_, rfl, h _ _ ((tm_leaf (by decide +kernel)).mono (by omega)) hc'⟩
  refine ⟨rfl, rfl, take_of (by omega) (show c < 1000000000 by omega) fun kind k0 k8 => ⟨trivial, ?_⟩⟩
  refine if_or (fun _ => ?_) fun hn => ?_
  · refine ⟨_, rfl, len_ok rfl, _, rfl, len_ok rfl, _, rfl, len_ok rfl, _, rfl, len_ok rfl, trivial, ?_⟩
    refine ⟨rfl, rfl, take_of (by omega) (show c + 1 < 1000000000 by omega) fun r r0 r6 => ?_⟩
    have hb : c + 1 + 1 ≤ c + 4 ^ (n + 1) := by clear leaf; omega
    exact Exists.elim (leaf (c + 1 + 1) r hb r0 r6) fun d q => ⟨_, r, d, rfl, rfl, q.1, trivial, q.2⟩
  · obtain ⟨m, rfl⟩ : ∃ m, n = m + 1 := ⟨n - 1, by have : ¬ ((n : Int) = 0) := fun q => hn (.inl q); omega⟩
    have em : ((m + 1 : Nat) : Int) - 1 = (m : Int) := by omega
    have p : 4 ^ (m + 1 + 1) = 4 ^ (m + 1) * 4 := Nat.pow_succ _ _
    have p1 : 1 ≤ 4 ^ (m + 1) := Nat.one_le_pow _ _ (by omega)
    have sub : ∀ (c' : Nat) (k' : Nat → Sl → Prop) (kx : Nat → XD → Prop), c' + 4 ^ (m + 1) < 1000000000 → (∀ d c2, Tm (m + 1) d → c2 ≤ c' + 4 ^ (m + 1) → k' c2 (.im d)) → gTerm (m + 1 - 1) c' [.rng, .im (.int (((m + 1 : Nat) : Int) - 1))] k' kx := fun c' k' kx hc' hk => ⟨by rw [em]; rfl, hc', hk⟩
    refine if_lt (fun _ => ?_) fun _ => if_lt (fun _ => ?_) fun _ => ?_
    · refine ⟨_, _, rfl, rfl, rfl, rfl, sub (c + 1) _ _ (by omega) fun d c2 hd h2 => ?_⟩
      have hh := h (.tup [.str "f", d]) c2 (.a f_ok (by simp) (by simp [hd])) (by omega)
      exact ⟨_, rfl, len_ok rfl, trivial, hh⟩
    · refine ⟨_, _, rfl, rfl, rfl, rfl, sub (c + 1) _ _ (by omega) fun d c2 hd h2 => ?_⟩
      refine ⟨_, _, rfl, rfl, rfl, rfl, sub c2 _ _ (by omega) fun d2 c3 hd2 h3 => ?_⟩
      have hh := h (.tup [.str "g", d, d2]) c3 (.a g_ok (by simp) (by simp [hd, hd2])) (by omega)
      exact ⟨_, rfl, len_ok rfl, trivial, hh⟩
    · refine ⟨_, _, rfl, rfl, rfl, rfl, sub (c + 1) _ _ (by omega) fun d c2 hd h2 => ?_⟩
      refine ⟨_, _, rfl, rfl, rfl, rfl, sub c2 _ _ (by omega) fun d2 c3 hd2 h3 => ?_⟩
      refine ⟨_, _, rfl, rfl, rfl, rfl, sub c3 _ _ (by omega) fun d3 c4 hd3 h4 => ?_⟩
      have hh := h (.tup [.str "h2", d, d2, d3]) c4 (.a h_ok (by simp) (by simp [hd, hd2, hd3])) (by omega)
      exact ⟨_, rfl, len_ok rfl, trivial, hh⟩
end K86

/-! ## P86i -/
set_option Elab.async false
set_option linter.all false
set_option autoImplicit false
set_option maxRecDepth 100000
set_option maxHeartbeats 1000000
namespace K86
open PySem L2 DL
local macro_rules | `(tactic| walk_at "ev") => `(tactic| simp [dSeq, dIfS, dRet, dRetN, dDrop, dSet, dAug, dApp, dSetIx, dAsgT, dNext, dBrk, dCnt, dRaise, dFor, dIt, dItT, dRng1, dRng2, gN, gT2, gT3, dTest, dAnd, dOr, dNot, dAndV, dOrV, dNotV, dIf, dTru, dTrue, dCall, dCB, dCons, dNil, dVar, dFrz, dMov, dC, dBin, dBinK, dUn, dTup, dLst, dSl, dPart, dNoP, dChain, dLc, wipeΓ,
  startΓ, endsF, imm, pend, retable, argIm, ims, oI, oIC, oEqS, oNeS, oCatT, oCatS, oCatH, lstH, oIxT, oIxL, oIxS, oSlT, oSlL, oNeg, oLenA, lenA, oSum, oAny, oAll, oTuple, oList, oInt1, oIsi, oAbs, rdD, scD, truD, tyD, scal, and_assoc])
/-! _law_refused -/
def gRef (n : Nat) : SF := fun c as k _ => ∃ d is, as = [.im d, .im (.tup (is.map D.int))] ∧ is.length ≤ n ∧ (∃ m, Tm m d) ∧ atP is d = none ∧ k c (.im (.bl true))
theorem p_ref (C C2 : Addr) (n : Nat) (c : Nat) (as : List Sl) (k : Nat → Sl → Prop) (kx : Nat → XD → Prop) (hl : as.length = 2) (h : gRef n c as k kx) : b_law_refused (gPart C) (gRepl C n) C C2 true (endsF k kx) ⟨c, startΓ 2 3 as, false⟩ := by
  obtain ⟨d, is, rfl, hlen, hd, hn, h⟩ := h
  have hn2 : putP is d (.tup [.str "a"]) = none := (putP_none is d _).mpr hn
  refine ⟨rfl, rfl, d, is, rfl, hd, ?_⟩
  rw [hn]
  refine ⟨rfl, fun a => ⟨rfl, true, rfl, ?_⟩⟩
  refine ⟨_, rfl, (show (1 : Nat) ≤ 1000000 by decide), rfl, rfl, d, is, .tup [.str "a"], rfl, hlen, hd, ?_⟩
  rw [hn2]
  exact ⟨rfl, fun a => ⟨rfl, trivial, h⟩⟩
end K86

/-! ## P86j -/
set_option Elab.async false
set_option linter.all false
set_option autoImplicit false
set_option maxRecDepth 100000
set_option maxHeartbeats 1000000
namespace K86
open PySem L2 DL
local macro_rules | `(tactic| walk_at "ev") => `(tactic| simp [dSeq, dIfS, dRet, dRetN, dDrop, dSet, dAug, dApp, dSetIx, dAsgT, dNext, dBrk, dCnt, dRaise, dFor, dIt, dItT, dRng1, dRng2, gN, gT2, gT3, dTest, dAnd, dOr, dNot, dAndV, dOrV, dNotV, dIf, dTru, dTrue, dCall, dCB, dCons, dNil, dVar, dFrz, dMov, dC, dBin, dBinK, dUn, dTup, dLst, dSl, dPart, dNoP, dChain, dLc, wipeΓ,
  startΓ, endsF, imm, pend, retable, argIm, ims, oI, oIC, oEqS, oNeS, oCatT, oCatS, oCatH, lstH, oIxT, oIxL, oIxS, oSlT, oSlL, oNeg, oLenA, lenA, oSum, oAny, oAll, oTuple, oList, oInt1, oIsi, oAbs, rdD, scD, truD, tyD, scal, and_assoc])
/-! _law_atom -/
def gAtom : SF := fun c as k _ => as = [.rng] ∧ c + 2000 < 1000000000 ∧ ∀ d c', Tm 5 d → c' ≤ c + 2000 → k c' (.im d)
theorem lt4 {r : Int} (h0 : 0 ≤ r) (h : r < 4) : r = 0 ∨ r = 1 ∨ r = 2 ∨ r = 3 := by omega
theorem nm_ok {r : Int} (h0 : 0 ≤ r) (h : r < 4) : ∃ x : Str, atI [D.str "Q", .str "P", .str "R12", .str "Longname123A"] r = some (.str x) ∧ PyData.strOk x = true := by
  rcases lt4 h0 h with rfl | rfl | rfl | rfl
  · exact ⟨_, rfl, by decide +kernel⟩
  · exact ⟨_, rfl, by decide +kernel⟩
  · exact ⟨_, rfl, by decide +kernel⟩
  · exact ⟨_, rfl, by decide +kernel⟩
theorem p_atom (c : Nat) (as : List Sl) (k : Nat → Sl → Prop) (kx : Nat → XD → Prop) (hl : as.length = 1) (h : gAtom c as k kx) : b_law_atom gTake (gTerm 3) (endsF k kx) ⟨c, startΓ 1 4 as, false⟩ := by
  obtain ⟨rfl, hc, h⟩ := h
  refine ⟨rfl, rfl, take_of (by omega) (show c < 1000000000 by omega) fun m m0 m4 => ⟨trivial, ?_⟩⟩
  obtain ⟨x, hx, hok⟩ := nm_ok m0 m4
  refine ⟨_, rfl, len_ok rfl, trivial, ?_⟩
  refine ⟨_, m, _, rfl, rfl, hx, _, rfl, len_ok rfl, m, rfl, by omega, by omega, ?_⟩
  refine loopC_some (Tm 4) 256 (c + 1 + 1000) _ [] (c + 1) (fun d hd c1 ky kn hc1 hk => ?_) ?_ ?_ fun ys c' hy1 hy2 hc' => ?_
  · exact ⟨rfl, rfl, rfl, rfl, show c1 + 4 ^ (3 + 1) < 1000000000 by omega, fun e c2 he hc2 => ⟨rfl, e, rfl, hk e c2 he hc2⟩⟩
  · rw [upFrom_len]; simp; omega
  · rw [upFrom_len]; omega
  · rw [upFrom_len] at hy1 hc'
    refine ⟨_, _, rfl, rfl, by simp; omega, _, _, rfl, .inl rfl, trivial, ?_⟩
    have hc2 : c' ≤ c + 2000 := by omega
    exact h _ _ (.a hok (by simp; omega) (by simpa using hy2)) hc2
end K86

/-! ## P86k -/
set_option Elab.async false
set_option linter.all false
set_option autoImplicit false
set_option maxRecDepth 100000
set_option maxHeartbeats 1000000
namespace K86
open PySem L2 DL
/-! _law_one -/
def gListed : SF := fun c as k _ => ∃ d, as = [.im d] ∧ Tm 8 d ∧ k c (.im (.bl true))
def gOne : SF := fun c as k _ => ∃ d u, as = [.rng, .im d, .im u] ∧ Tm 5 d ∧ Tm 3 u ∧ c + 10 < 1000000000 ∧ ∀ c', c' ≤ c + 10 → k c' (.im (.bl true))
theorem encP_eq (p : List Nat) : encP p = .tup ((ip p).map D.int) := by simp [encP, ip, Function.comp_def]
theorem part_ok {C : Addr} {c : Nat} {d e : D} {is : List Int} {k : Nat → Sl → Prop} {kx : Nat → XD → Prop} (hd : ∃ n, Tm n d) (h : atP is d = some e) (hk : k c (.im e)) : gPart C c [.im d, .im (.tup (is.map D.int))] k kx := ⟨d, is, rfl, hd, by rw [h]; exact hk⟩
theorem repl_ok {C : Addr} {n c : Nat} {d e u : D} {is : List Int} {k : Nat → Sl → Prop} {kx : Nat → XD → Prop} (hl : is.length ≤ n) (hd : ∃ n, Tm n d) (h : putP is d u = some e) (hk : k c (.im e)) : gRepl C n c [.im d, .im (.tup (is.map D.int)), .im u] k kx := ⟨d, is, u, rfl, hl, hd, by rw [h]; exact hk⟩
theorem ref_ok {n c : Nat} {d : D} {is : List Int} {x : D} {k : Nat → Sl → Prop} {kx : Nat → XD → Prop} (hx : x = .tup (is.map D.int)) (hl : is.length ≤ n) (hd : ∃ n, Tm n d) (h : atP is d = none) (hk : k c (.im (.bl true))) : gRef n c [.im d, .im x] k kx := ⟨d, is, by rw [hx], hl, hd, h, hk⟩
theorem ne_ok {n : Nat} {x y : Sl} {d : D} {k : Sl → Prop} (hx : rdD x = some d) (hy : rdD y = some d) (hd : Tm n d) (hn : n ≤ 60) (hk : k (.im (.bl false))) : oNe x y k := ⟨d, d, hx, hy, okN_ok hd.ok (by omega), okN_ok hd.ok (by omega), by rw [eqD_self hd.ok]; exact hk⟩
theorem ne_f {n : Nat} {d : D} (hd : Tm n d) : Sl.im (D.bl (!eqD d d)) = .im (.bl false) := by rw [eqD_self hd.ok]; rfl
/-- the rows of _law_one behind «beyond» -/
def b_tail : SS := (dSeq (dIfS (dOr (dNot (dTest (dCall 2 (gRef 8) (dCons (dVar 1) (dCons (dVar 9) dNil))))) (dNot (dTest (dCall 2 (gRef 8) (dCons (dVar 1) (dCons (dBin oCatT (dVar 9) (dTup (dCons (dC (.int 0)) dNil))) dNil)))))) (dRet (dC (.bl false))) dNext)
    (dSeq (dSet 10 (dSl oSlT (dVar 4) dNoP (dPart (dCall 2 gTake (dCons (dVar 0) (dCons (dBin oAdd (dCB oLenA (dCons (dVar 4) dNil)) (dC (.int 1))) dNil))))))
    (dSeq (dIfS (dNot (dTest (dCall 2 (gRef 8) (dCons (dVar 1) (dCons (dBin oCatT (dVar 10) (dTup (dCons (dBin oSub (dUn oNeg (dC (.int 1))) (dCall 2 gTake (dCons (dVar 0) (dCons (dC (.int 4)) dNil)))) dNil))) dNil))))) (dRet (dC (.bl false))) dNext)
    (dRet (dAndV (dCall 1 gListed (dCons (dVar 1) dNil)) (dAndV (dCall 1 gListed (dCons (dVar 2) dNil)) (dCall 1 gListed (dCons (dVar 6) dNil))))))))
theorem p_tail (c : Nat) (d u t e0 : D) (places : Sl) (is : List Int) (q : Int) (x : Sl) (k : Nat → Sl → Prop) (kx : Nat → XD → Prop) (hd : Tm 5 d) (hu : Tm 3 u) (ht : Tm 8 t) (hl : is.length ≤ 5) (hq : atP (is ++ [q]) d = none) (hc : c + 8 < 1000000000) (h : ∀ c', c' ≤ c + 5 → k c' (.im (.bl true))) :
    b_tail (endsF k kx) ⟨c, [.rng, .im d, .im u, places, .im (.tup (is.map D.int)), x, .im t, .im t, .im e0, .im (.tup (is.map D.int ++ [.int q])), .no], false⟩ := by
  have c1 : c < 1000000000 := by omega
  have c2 : c + 1 < 1000000000 := by omega
  have e1 : D.tup (is.map D.int ++ [.int q]) = .tup ((is ++ [q]).map D.int) := by simp
  have e2 : D.tup (is.map D.int ++ [.int q] ++ [.int 0]) = .tup ((is ++ [q] ++ [0]).map D.int) := by simp
  have n1 : atP (is ++ [q] ++ [0]) d = none := by rw [atP_app, hq]; rfl
  refine ⟨rfl, rfl, ref_ok e1 (by simp; omega) ⟨5, hd⟩ hq ⟨true, rfl, ?_⟩⟩
  refine ⟨_, rfl, len_ok rfl, _, _, rfl, rfl, by simp; omega, rfl, rfl, ref_ok e2 (by simp; omega) ⟨5, hd⟩ n1 ⟨true, rfl, ?_⟩⟩
  refine ⟨_, _, _, rfl, rfl, rfl, _, _, rfl, rfl, rfl, rfl, take_of (by omega) c1 fun r r0 r1 => ⟨r, rfl, _, rfl, trivial, ?_⟩⟩
  refine ⟨1, rfl, rfl, rfl, take_of (by decide) c2 fun p p0 p1 => ⟨_, _, rfl, rfl, _, rfl, len_ok rfl, _, _, rfl, rfl, ?_, rfl, rfl, ref_ok (is := is.take r.toNat ++ [-1 - p]) ?_ ?_ ⟨5, hd⟩ ?_ ⟨true, rfl, ?_⟩⟩⟩
  · rw [cut_to _ r0]; simp; omega
  · rw [cut_to _ r0, List.map_append, List.map_take]; rfl
  · simp; omega
  · rw [atP_app]
    cases atP (is.take r.toNat) d with
    | none => rfl
    | some e =>
      show atP [-1 - p] e = none
      cases e with
      | tup ds =>
        simp only [atP]
        rw [if_neg (by omega)]
      | _ => rfl
  · refine ⟨rfl, rfl, d, rfl, hd.mono (by decide), true, rfl, rfl, rfl, u, rfl, hu.mono (by decide), true, rfl, rfl, rfl, t, rfl, ht, trivial, ?_⟩
    exact h (c + 1 + 1) (by omega)
theorem p_one (C : Addr) (c : Nat) (as : List Sl) (k : Nat → Sl → Prop) (kx : Nat → XD → Prop) (hl : as.length = 3) (h : gOne c as k kx) : b_law_one (gPlaces 5) gTake (gPart C) gLPart (gPut 8) (gRepl C 8) (gRef 8) gListed (endsF k kx) ⟨c, startΓ 3 11 as, false⟩ := by
  obtain ⟨d, u, rfl, hd, hu, hc, h⟩ := h
  have c1 : c < 1000000000 := by omega
  have c2 : c + 1 < 1000000000 := by omega
  have c3 : c + 1 + 1 < 1000000000 := by omega
  have c4 : c + 1 + 1 + 1 < 1000000000 := by omega
  have hp0 : 0 < (plN 5 d).length := by
    cases hd with
    | u => rw [plN_str]; decide
    | a => exact Nat.succ_pos _
  refine ⟨rfl, rfl, d, rfl, hd, trivial, ?_⟩
  refine ⟨_, _, _, rfl, rfl, rfl, rfl, rfl, take_of (by rw [List.length_map]; omega) c1 fun r r0 r1 => ?_⟩
  rw [List.length_map] at r1
  have hr : r.toNat < (plN 5 d).length := by omega
  obtain ⟨e0, he0, hte0⟩ := pl_at hd _ (List.getElem_mem hr)
  have hpl : (ip (plN 5 d)[r.toNat]).length ≤ 5 := by
    have := pl_len (List.getElem_mem hr)
    unfold ip; rw [List.length_map]; exact this
  have hat : atI ((plN 5 d).map encP) r = some (.tup ((ip (plN 5 d)[r.toNat]).map D.int)) := by
    rw [← encP_eq]
    exact atI_ok r0 (by rw [List.getElem?_map, List.getElem?_eq_getElem hr]; rfl)
  revert he0 hpl hat
  generalize ip (plN 5 d)[r.toNat] = is
  intro he0 hpl hat
  obtain ⟨t, ht⟩ := put_some (u := u) he0
  have htt : Tm 8 t := put_tm hu is hd ht
  refine ⟨_, r, _, rfl, rfl, hat, trivial, ?_⟩
  refine ⟨_, rfl, rfl, ?_⟩
  refine loopD_run (fun pre s => ∃ x, s = ⟨c + 1, [.rng, .im d, .im u, .im (.lst ((plN 5 d).map encP)), .im (.tup (is.map D.int)), x, .no, .no, .no, .no, .no], false⟩) ⟨.no, rfl⟩ ?_ ?_
  · rintro pre x post s N hp ⟨y, rfl⟩ hN
    obtain ⟨hq, hx, _⟩ := map_split hp
    obtain ⟨e1, he1, hte1⟩ := pl_at hd _ (List.getElem_mem hq)
    rw [encP_eq] at hx
    subst hx
    revert he1
    generalize ip (plN 5 d)[pre.length] = js
    intro he1
    refine ⟨rfl, rfl, part_ok ⟨5, hd⟩ he1 ?_⟩
    refine ⟨rfl, rfl, d, js, e1, rfl, ⟨5, hd⟩, he1, ?_⟩
    refine ne_ok rfl rfl hte1 (by decide) ?_
    exact ⟨false, rfl, hN _ ⟨_, rfl⟩⟩
  rintro s ⟨x, rfl⟩
  refine ⟨rfl, rfl, d, is, u, t, rfl, by omega, ⟨5, hd⟩, ht, trivial, ?_⟩
  refine ⟨rfl, rfl, repl_ok (by omega) ⟨5, hd⟩ ht ⟨trivial, ?_⟩⟩
  refine ⟨_, _, rfl, rfl, okN_ok htt.ok, okN_ok htt.ok, false, ne_f htt, ?_⟩
  refine ⟨rfl, rfl, part_ok ⟨8, htt⟩ (at_put is d u t ht) ?_⟩
  refine ⟨_, _, rfl, rfl, okN_ok hu.ok, okN_ok hu.ok, false, ne_f hu, ?_⟩
  refine ⟨rfl, rfl, d, is, e0, rfl, ⟨5, hd⟩, he0, trivial, ?_⟩
  refine ⟨rfl, rfl, repl_ok (by omega) ⟨8, htt⟩ (put_back is d u t e0 ht he0) ?_⟩
  refine ⟨_, _, rfl, rfl, okN_ok hd.ok, okN_ok hd.ok, false, ne_f hd, ?_⟩
  -- beyond
  have hb : ∃ n : Nat, lenA e0 = some n ∧ n ≤ 1000000 := by
    cases hte0 with
    | u hx hl => exact ⟨_, if_pos hl, hl⟩
    | a hf hl hds => exact ⟨_, rfl, by simp; omega⟩
  obtain ⟨m, hm, hm1⟩ := hb
  refine ⟨_, e0, m, rfl, rfl, hm, m, 1, rfl, rfl, [.int ((m : Int) - 1)], rfl, len_ok rfl, _, _, rfl, rfl, by simp; omega, trivial, ?_⟩
  have ex0 : ∀ i : Int, (∃ x, e0 = .str x) → atP (is ++ [i]) d = none := fun i ⟨x, hx⟩ => by
    rw [atP_app, he0, hx]; rfl
  cases hte0 with
  | @u _ x hx hl =>
    refine ⟨_, "str", _, "str", true, rfl, rfl, rfl, by decide +kernel, true, rfl, ?_⟩
    refine ⟨rfl, rfl, take_of (by decide) c2 fun q q0 q1 => ⟨_, rfl, len_ok rfl, _, _, rfl, rfl, by simp; omega, trivial, ?_⟩⟩
    exact p_tail (c + 1 + 1) d u t _ _ is q _ k kx hd hu htt hpl (ex0 q ⟨_, rfl⟩) (by omega) fun c' hc' => h c' (by omega)
  | @a _ f ds hf hl hds =>
    refine ⟨_, "str", _, "tuple", false, rfl, rfl, rfl, by decide +kernel, false, rfl, ?_⟩
    have hm' : m = ds.length + 1 := by
      have : lenA (.tup (.str f :: ds)) = some (ds.length + 1) := rfl
      rw [this] at hm; cases hm; rfl
    subst hm'
    refine p_tail (c + 1) d u t _ _ is _ _ k kx hd hu htt hpl ?_ (by omega) fun c' hc' => h c' (by omega)
    rw [atP_app, he0]
    show atP [((ds.length + 1 : Nat) : Int) - 1] (.tup (.str f :: ds)) = none
    simp only [atP]
    rw [if_neg (by simp only [List.length_cons]; omega)]
end K86

/-! ## K86L -/
set_option Elab.async false
set_option linter.all false
set_option autoImplicit false
set_option maxRecDepth 100000
set_option maxHeartbeats 2000000
namespace K86
open PySem L2 DL
/-! ### _law_listed -/
abbrev s_law_listed : Stmt := topS 20
theorem sc_law_listed : FnScope ["term", "parts", "found", "names", "part", "size", "told", "due", "place"] ["term"] (defScope s_law_listed) := ⟨rfl, rfl, rfl, by decide +kernel, rfl, by decide +kernel, by decide +kernel⟩
def kF : KX := fun _ _ => False
/-- from «told = ..» on -/
def b_told (g_pl g_pts g_un g_lp : SF) : SS := fun E s => ∃ A B C DU : List D, 6 < s.Γ.length ∧
  dCall 1 g_pl (dCons (dVar 0) dNil) s (fun s1 r => s1 = s ∧ r = .own (.lst A)) kF ∧ dCall 1 g_pts (dCons (dVar 0) dNil) s (fun s1 r => s1 = s ∧ r = .own (.lst B)) kF ∧ dCall 1 g_un (dCons (dVar 0) dNil) s (fun s1 r => s1 = s ∧ r = .own (.lst C)) kF ∧
  A.length ≤ 1000000 ∧ B.length ≤ 999999 ∧ C.length ≤ 1000000 ∧ okD (.lst [.lst A, .lst B, .lst C]) ∧ okD (.lst DU) ∧ eqD (.lst [.lst A, .lst B, .lst C]) (.lst DU) = true ∧
  ∀ t : Addr, dSet 7 (dLst (dCons (dCall 1 g_lp (dCons (dVar 0) dNil)) (dCons (dFrz 2) (dCons (dFrz 3) dNil))))
    { nx := fun s2 => s2.Γ[6]? = some (.im (.ptr t)) ∧ s2.Γ[7]? = some (.own (.lst DU)) ∧
        dRet (dBin oEq (dLst (dCons (dCall 1 g_pl (dCons (dVar 0) dNil)) (dCons (dCall 1 g_pts (dCons (dVar 0) dNil)) (dCons (dCall 1 g_un (dCons (dVar 0) dNil)) dNil)))) (dVar 7)) { nx := fun _ => False, rt := E.rt, bk := fun _ => False, ct := fun _ => False, ex := kF } s2
      rt := fun _ _ => False, bk := fun _ => False, ct := fun _ => False, ex := kF } { s with Γ := s.Γ.set 6 (.im (.ptr t)) }
def b_law_listed (g_lp g_part g_size g_pl g_pts g_un : SF) : SS := (dSeq (dSet 1 (dLc (dIt (dCall 1 g_lp (dCons (dVar 0) dNil))) [8] (gN 8) dTrue (dCall 2 g_part (dCons (dVar 0) (dCons (dVar 8) dNil)))))
    (dSeq (dSet 2 (dLst dNil))
    (dSeq (dSet 3 (dLst dNil))
    (dSeq (dFor (dIt (dFrz 1)) (gN 4) (dSeq (dIfS (dTest (dBin oNotIn (dVar 4) (dVar 2))) (dApp 2 (dVar 4)) dNext)
    (dIfS (dAnd (dTest (dCB oIsi (dCons (dVar 4) (dCons (dC (.ty "str")) dNil)))) (dTest (dBin oNotIn (dVar 4) (dVar 3)))) (dApp 3 (dVar 4)) dNext)))
    (dSeq (dSet 5 (dCall 1 g_size (dCons (dVar 0) dNil)))
    (dSeq (dIfS (dOr (dNot (dTest (dCB oIsi (dCons (dVar 5) (dCons (dC (.ty "int")) dNil))))) (dOr (dTest (dCB oIsi (dCons (dVar 5) (dCons (dC (.ty "bool")) dNil)))) (dTest (dBin oNeS (dVar 5) (dCB oLenA (dCons (dVar 1) dNil)))))) (dRet (dC (.bl false))) dNext)
    (b_told g_pl g_pts g_un g_lp)))))))
section
variable {K : PySem.W.Frag} {W : WX}
theorem good_told {g_pl g_pts g_un g_lp : SF} : GoodS K W (tSeq (tAsg (tLst (tCons (tD K W (dCall 1 g_pl (dCons (dVar 0) dNil))) (tCons (tD K W (dCall 1 g_pts (dCons (dVar 0) dNil))) (tCons (tD K W (dCall 1 g_un (dCons (dVar 0) dNil))) tNil)))) (gName 6))
    (tSeq (tS K W (dSet 7 (dLst (dCons (dCall 1 g_lp (dCons (dVar 0) dNil)) (dCons (dFrz 2) (dCons (dFrz 3) dNil))))))
    (tSeq (tIfS (tTest (tOp (rNeD K) (tVar 6) (tVar 7))) (tRet (tC (.bl false))) tNext)
    (tSeq (tDrop (tBM K "list" rAppend (tOp (rIxL K) (tVar 6) (tC (.int 0))) (tCons (tD K W (dTup (dCons (dC (.int 0)) (dCons (dC (.int 0)) dNil)))) tNil)))
    (tSeq (tDrop (tBM0 K "list" rReverse (tOp (rIxL K) (tVar 6) (tC (.int 1)))))
    (tSeq (tDrop (tBM K "list" rAppend (tOp (rIxL K) (tVar 6) (tC (.int 1))) (tCons (tD K W (dTup (dCons (dC (.str "a")) dNil))) tNil)))
    (tSeq (tDrop (tBM K "list" rAppend (tOp (rIxL K) (tVar 6) (tC (.int 2))) (tCons (tD K W (dC (.str "z9"))) tNil)))
    (tS K W (dRet (dBin oEq (dLst (dCons (dCall 1 g_pl (dCons (dVar 0) dNil)) (dCons (dCall 1 g_pts (dCons (dVar 0) dNil)) (dCons (dCall 1 g_un (dCons (dVar 0) dNil)) dNil)))) (dVar 7))))))))))) (b_told g_pl g_pts g_un g_lp) := fun R H0 Hb0 s σ τ Hb H D E e hb ⟨A, B, C, DU, hi, qa, qb, qc, lA, lB, lC, ok1, ok2, heq, hf⟩ he => by
  refine told_new goodD goodD goodD e hb hi qa qb qc fun t p q r Hb1 H1 T1 => ?_
  refine goodS R _ Hb0 _ _ (τ ++ tvL [(A, p), (B, q), (C, r)]) Hb1 H1 _ _ T1.e hb (hf t) ⟨fun s2 σ2 Hb2 H2 ⟨i6, i7, h8⟩ e2 b2 => ?_, fun _ _ _ _ z => z.elim, fun _ _ _ _ z => z.elim, fun _ _ _ _ _ z => z.elim, fun _ _ z => z.elim⟩
  have T2 : Told K R H0 Hb0 s2 σ2 τ Hb2 H2 6 t [(A, p), (B, q), (C, r)] := ⟨i6, T1.h0, T1.b0, T1.rt, e2⟩
  refine told_ne T2 i7 ok1 ok2 heq ?_
  refine told_app (j := 0) goodD T2 b2 rfl lA ⟨_, rfl, (show (2 : Nat) ≤ 1000000 by decide), rfl, rfl⟩ fun Hb3 H3 T3 => ?_
  refine told_rev (j := 1) T3 b2 rfl fun Hb4 H4 T4 => ?_
  refine told_app (j := 1) goodD T4 b2 rfl (by rw [List.length_reverse]; omega) ⟨_, rfl, (show (1 : Nat) ≤ 1000000 by decide), rfl, rfl⟩ fun Hb5 H5 T5 => ?_
  refine told_app (j := 2) goodD T5 b2 rfl lC ⟨rfl, rfl⟩ fun Hb6 H6 T6 => ?_
  exact goodS R _ Hb0 _ _ _ Hb6 H6 _ _ T6.e b2 h8 ⟨fun _ _ _ _ z => z.elim, fun _ _ _ _ z => z.elim, fun _ _ _ _ z => z.elim, fun c r v Hb' H' z ret => he.rt c r v Hb' H' z (ret.low T6.h0), fun _ _ z => z.elim⟩
end
theorem w_law_listed {P : Program} {w : World} {K : PySem.W.Frag} {mg : Str → Option Value} {base : Heap} {f : Addr} {fd : FuncData} {k : Nat} {G : SF} {g__law_places g__law_part g_term_size g_places_of g_parts_of g_unknowns_of : SF} (F : Fun K "_law_listed" "_law_listed" s_law_listed f fd)
    (c__law_places : FnD P w K mg base k "_law_places" 1 g__law_places) (c__law_part : FnD P w K mg base k "_law_part" 2 g__law_part) (c_term_size : FnD P w K mg base k "term_size" 1 g_term_size) (c_places_of : FnD P w K mg base k "places_of" 1 g_places_of) (c_parts_of : FnD P w K mg base k "parts_of" 1 g_parts_of) (c_unknowns_of : FnD P w K mg base k "unknowns_of" 1 g_unknowns_of)
    (m_isinstance : mg "isinstance" = none) (m_str : mg "str" = none) (m_int : mg "int" = none) (m_bool : mg "bool" = none) (m_len : mg "len" = none)
    (hG : ∀ c as k kx, as.length = 1 → G c as k kx → b_law_listed g__law_places g__law_part g_term_size g_places_of g_parts_of g_unknowns_of (endsF k kx) ⟨c, startΓ 1 9 as, false⟩) : FnOk P w K mg base (L2.CX P w) (k + 1) f fd ["term"] (spD K 1 G) := by
  refine fn_D (body := b_law_listed g__law_places g__law_part g_term_size g_places_of g_parts_of g_unknowns_of) F sc_law_listed rfl (fun cdv A outer s H E hr tk po => ?_) hG
  exact (ds_cons (ds_setLc (i := 1) [("place", 8)] rfl sc_law_listed.nd rfl rfl (sw_true rfl rfl rfl (by decide +kernel)) (di_list (de_call c__law_places hr tk (Nat.le_refl _) (da_cons (de_var 0) da_nil))) (blkOk_by (N := ["term", "parts", "found", "names", "part", "size", "told", "due", "place"]) (sc := defScope s_law_listed) (by decide +kernel)) (fun _ _ _ _ _ => (pg_name (i := 8) sc_law_listed.nd rfl (by first | exact Or.inl rfl | exact Or.inr rfl))) (good_gN 8) (by decide) (fun _ _ _ _ _ => dts_nil) (fun _ _ _ _ _ => (de_call c__law_part hr takes0 (Nat.le_refl _) (da_cons (de_var 0) (da_cons (de_var 8) da_nil)))))
    (ds_cons (ds_set (i := 2) sc_law_listed.nd (de_lst (pe_lst da_nil)))
    (ds_cons (ds_set (i := 3) sc_law_listed.nd (de_lst (pe_lst da_nil)))
    (ds_cons (ds_for po (di_list (de_frz 1)) ((pg_name (i := 4) sc_law_listed.nd rfl (by first | exact Or.inl rfl | exact Or.inr rfl))) (good_gN 4) (ds_cons (ds_if (dt_cmp (op_notInD (room65 hr)) ok_notIn (de_var 4) (de_var 2)) (ds_one (ds_app rfl (de_var 4) (ps_expr (pe_bm PySem.F.plainAttrs_list PySem.F.slot_list_append PySem.F.type_list_append mt_append (pv 2) (pa_cons (de_var 4) pa_nil))))) ds_nil)
    (ds_one (ds_if (PW.pt (dw_and (dt_val (de_cb call_isi ok_isi m_isinstance PyProof.Rows.boot_isinstance (da_cons (de_var 4) (da_cons (de_ty m_str PyProof.Rows.boot_str) da_nil)))) (dw_and1 (dt_cmp (op_notInD (room65 hr)) ok_notIn (de_var 4) (de_var 3))))) (ds_one (ds_app rfl (de_var 4) (ps_expr (pe_bm PySem.F.plainAttrs_list PySem.F.slot_list_append PySem.F.type_list_append mt_append (pv 3) (pa_cons (de_var 4) pa_nil))))) ds_nil))))
    (ds_cons (ds_set (i := 5) sc_law_listed.nd (de_call c_term_size hr tk (Nat.le_refl _) (da_cons (de_var 0) da_nil)))
    (ds_cons (ds_if (PW.pt (dw_or (dt_not (dt_val (de_cb call_isi ok_isi m_isinstance PyProof.Rows.boot_isinstance (da_cons (de_var 5) (da_cons (de_ty m_int PyProof.Rows.boot_int) da_nil))))) (dw_or (dt_val (de_cb call_isi ok_isi m_isinstance PyProof.Rows.boot_isinstance (da_cons (de_var 5) (da_cons (de_ty m_bool PyProof.Rows.boot_bool) da_nil)))) (dw_or1 (dt_cmp op_ne ok_neS (de_var 5) (de_cb call_len ok_lenA m_len boot_len (da_cons (de_var 1) da_nil))))))) (ds_one (ds_ret de_bl)) ds_nil)
    (dssG (pss_cons (ps_set (i := 6) sc_law_listed.nd rfl (by first | exact Or.inl rfl | exact Or.inr rfl) (pe_lst (pa_cons (de_call c_places_of hr tk (Nat.le_refl _) (da_cons (de_var 0) da_nil)) (pa_cons (de_call c_parts_of hr tk (Nat.le_refl _) (da_cons (de_var 0) da_nil)) (pa_cons (de_call c_unknowns_of hr tk (Nat.le_refl _) (da_cons (de_var 0) da_nil)) pa_nil)))))
      (pss_cons (ds_set (i := 7) sc_law_listed.nd (de_lst (pe_lst (da_cons (de_call c__law_places hr tk (Nat.le_refl _) (da_cons (de_var 0) da_nil)) (da_cons (de_frz 2) (da_cons (de_frz 3) da_nil))))))
      (pss_cons (ps_if (pt_cmpR (op_neD hr.units) (pv 6) (pv 7) (nomark _)) (pss_one (ps_ret pe_bl)) pss_nil)
      (pss_cons (ps_expr (pe_bm PySem.F.plainAttrs_list PySem.F.slot_list_append PySem.F.type_list_append mt_append (pe_ix ix_list (pv 6) pe_int (fun _ _ => rfl)) (pa_cons (de_tup (pe_tup (da_cons de_int (da_cons de_int da_nil)))) pa_nil)))
      (pss_cons (ps_expr (pe_bm0 PySem.F.plainAttrs_list PySem.F.slot_list_reverse PySem.F.type_list_reverse mt_reverse (pe_ix ix_list (pv 6) pe_int (fun _ _ => rfl))))
      (pss_cons (ps_expr (pe_bm PySem.F.plainAttrs_list PySem.F.slot_list_append PySem.F.type_list_append mt_append (pe_ix ix_list (pv 6) pe_int (fun _ _ => rfl)) (pa_cons (de_tup (pe_tup (da_cons de_str da_nil))) pa_nil)))
      (pss_cons (ps_expr (pe_bm PySem.F.plainAttrs_list PySem.F.slot_list_append PySem.F.type_list_append mt_append (pe_ix ix_list (pv 6) pe_int (fun _ _ => rfl)) (pa_cons de_str pa_nil)))
      (pss_one (ds_ret (de_cmp (op_eqD hr.units) ok_eq (de_lst (pe_lst (da_cons (de_call c_places_of hr tk (Nat.le_refl _) (da_cons (de_var 0) da_nil)) (da_cons (de_call c_parts_of hr tk (Nat.le_refl _) (da_cons (de_var 0) da_nil)) (da_cons (de_call c_unknowns_of hr tk (Nat.le_refl _) (da_cons (de_var 0) da_nil)) da_nil))))) (de_var 7))))))))))) good_told)))))))
end K86

/-! ## P86l -/
set_option Elab.async false
set_option linter.all false
set_option autoImplicit false
set_option maxRecDepth 100000
set_option maxHeartbeats 1000000
namespace K86
open PySem L2 DL
/-! the parts, one by one -/
theorem prt_str (n : Nat) (x : Str) : prt n (.str x) = [.str x] := by
  unfold prt; rw [plN_str]; rfl
theorem prt_plS (n : Nat) (f : D) (all : List D) : ∀ (ds : List D) (i : Nat), all.drop i = ds → ((plS (plN n) i ds).map fun p => (atP (ip p) (.tup (f :: all))).getD .non) = ds.flatMap (prt n)
  | [], i, _ => rfl
  | d :: ds, i, h => by
    have hi : i < all.length := by
      by_cases z : i < all.length
      · exact z
      · rw [List.drop_eq_nil_of_le (by omega)] at h; cases h
    have hd : all[i] = d ∧ all.drop (i + 1) = ds := by
      rw [List.drop_eq_getElem_cons hi] at h
      exact ⟨(List.cons.inj h).1, (List.cons.inj h).2⟩
    simp only [plS, List.map_append, List.flatMap_cons, prt_plS n f all ds (i + 1) hd.2]
    congr 1
    rw [List.map_map]
    unfold prt
    refine List.map_congr_left fun p _ => ?_
    simp only [Function.comp, ip, List.map_cons, atP, List.length_cons]
    rw [if_pos (by omega)]
    have : ((i : Int) + 1).toNat = i + 1 := by omega
    rw [this, List.getD_cons_succ, List.getD_eq_getElem?_getD, List.getElem?_eq_getElem hi, hd.1]
    rfl
theorem prt_tup (n : Nat) (f : D) (ds : List D) : prt (n + 1) (.tup (f :: ds)) = .tup (f :: ds) :: ds.flatMap (prt n) := by
  have h := prt_plS n f ds ds 0 rfl
  show ((([] : List Nat) :: plS (plN n) 0 ds).map fun p => (atP (ip p) (.tup (f :: ds))).getD .non) = _
  rw [List.map_cons, h]
  rfl
def stD : D → Option Str
  | .str x => some x
  | _ => none
theorem str_prt {n : Nat} {d : D} (h : Tm n d) : (prt n d).filterMap stD = strN n d := by
  induction h with
  | u => rw [prt_str, strN_str]; rfl
  | @a n f ds hf hl hds ih =>
    rw [prt_tup, strN_tup, List.filterMap_cons]
    show (ds.flatMap (prt n)).filterMap stD = _
    clear hl hds hf
    induction ds with
    | nil => rfl
    | cons d ds ih2 =>
      rw [List.flatMap_cons, List.flatMap_cons, List.filterMap_append, ih d (by simp), ih2 fun x hx => ih x (by simp [hx])]
theorem notIn_ok {n : Nat} {x y : Sl} {d : D} {acc : List D} {k : Sl → Prop} (hx : rdD x = some d) (hy : rdD y = some (.lst acc)) (hd : Tm n d) (ha : ∀ z ∈ acc, Tm n z) (hn : n ≤ 60) (hk : k (.im (.bl (!acc.any fun z => eqD z d)))) : oNotIn x y k :=
  ⟨d, acc, hx, hy, okN_ok hd.ok (by omega), lst_ok ha hn, hk⟩
theorem str_tm {x : Str} {n : Nat} (h : PyData.strOk x = true ∧ x.length ≤ 1000000) : Tm n (.str x) := .u h.1 h.2
theorem if_ok {c : Bool} {A B : SS} {E : DE} {s : S} (h : if c = true then A E s else B E s) : (if c = true then A E s else B E s) := h
def fnd (n : Nat) (d : D) (m : Nat) : List D := ((prt n d).take m).foldl addD []
def nms (n : Nat) (d : D) (m : Nat) : List Str := (((prt n d).take m).filterMap stD).foldl addS []
theorem addD_if (acc : List D) (x : D) (P : List D → Prop) (h : P (addD acc x)) : if (!acc.any fun z => eqD z x) = true then P (acc ++ [x]) else P acc := by
  unfold addD at h
  cases q : acc.any fun z => eqD z x with
  | true => rw [q] at h; exact h
  | false => rw [q] at h; exact h
theorem addS_if (acc : List Str) (x : Str) (P : List Str → Prop) (h : P (addS acc x)) : if (!(acc.map D.str).any fun z => eqD z (.str x)) = true then P (acc ++ [x]) else P acc := by
  unfold addS at h
  rw [any_str]
  by_cases q : x ∈ acc
  · rw [if_pos q] at h
    rw [decide_eq_true q]; exact h
  · rw [if_neg q] at h
    rw [decide_eq_false q]; exact h
theorem p_listed (C : Addr) (c : Nat) (as : List Sl) (k : Nat → Sl → Prop) (kx : Nat → XD → Prop) (hl : as.length = 1) (h : gListed c as k kx) : b_law_listed (gPlaces 8) gLPart (gSize 8) (gPlaces 8) (gParts 8) (gUnks 8) (endsF k kx) ⟨c, startΓ 1 9 as, false⟩ := by
  obtain ⟨d, rfl, hd, h⟩ := h
  have hbig : (plN 8 d).length ≤ 65536 := plN_len hd
  have hpl : (prt 8 d).length = (plN 8 d).length := prt_len
  -- parts
  refine ⟨rfl, rfl, d, rfl, hd, _, rfl, ?_⟩
  refine loopC_map (fun e => match e with | .tup is => (atP (is.map fun i => match i with | .int j => j | _ => 0) d).getD .non | _ => .non) _ [] c (fun e he ky kn hk => ?_) (by rw [List.length_map, List.length_nil]; omega) ?_
  · obtain ⟨p, hp, rfl⟩ := List.mem_map.mp he
    obtain ⟨e1, he1, _⟩ := pl_at hd p hp
    rw [encP_eq] at hk ⊢
    have e2 : ((ip p).map D.int).map (fun i => match i with | .int j => j | _ => 0) = ip p := by
      rw [List.map_map]
      have : ((fun i => match i with | D.int j => j | _ => 0) ∘ D.int) = id := rfl
      rw [this, List.map_id]
    simp only [e2, he1, Option.getD_some] at hk
    exact ⟨rfl, rfl, rfl, d, ip p, e1, rfl, ⟨8, hd⟩, he1, rfl, e1, rfl, hk⟩
  have hparts : ((plN 8 d).map encP).map (fun e => match e with | .tup is => (atP (is.map fun i => match i with | .int j => j | _ => 0) d).getD .non | _ => .non) = prt 8 d := by
    rw [List.map_map]
    unfold prt
    refine List.map_congr_left fun p _ => ?_
    show (atP (List.map _ (p.map fun (i : Nat) => D.int (i : Int))) d).getD .non = _
    rw [List.map_map]
    rfl
  rw [List.nil_append, hparts]
  refine ⟨trivial, _, rfl, len_ok rfl, trivial, _, rfl, len_ok rfl, trivial, _, rfl, rfl, ?_⟩
  refine loopD_run (fun pre s => ∃ x, s = ⟨c, [.im d, .im (.lst (prt 8 d)), .own (.lst (fnd 8 d pre.length)), .own (.lst ((nms 8 d pre.length).map D.str)), x, .no, .no, .no, .no], false⟩) ⟨.no, rfl⟩ ?_ ?_
  · rintro pre x post s N hp ⟨y, rfl⟩ hN
    obtain ⟨hq, rfl, _⟩ := own_split hp
    have hst : (prt 8 d).take (pre.length + 1) = (prt 8 d).take pre.length ++ [(prt 8 d)[pre.length]] := by rw [List.take_add_one, List.getElem?_eq_getElem hq]; rfl
    have hte : Tm 8 (prt 8 d)[pre.length] := prt_ok hd _ (List.getElem_mem hq)
    have hf : fnd 8 d (pre.length + 1) = addD (fnd 8 d pre.length) (prt 8 d)[pre.length] := by
      unfold fnd
      rw [hst, List.foldl_append]; rfl
    have hn : nms 8 d (pre.length + 1) = match stD (prt 8 d)[pre.length] with | some x => addS (nms 8 d pre.length) x | none => nms 8 d pre.length := by
      unfold nms
      rw [hst, List.filterMap_append, List.foldl_append]
      cases q : stD (prt 8 d)[pre.length] with
      | none => simp [q]
      | some x => simp [q]
    have ha : ∀ z ∈ fnd 8 d pre.length, Tm 8 z := fun z hz => by
      rcases fold_mem hz with h | h
      · cases h
      · exact prt_ok hd z (List.mem_of_mem_take h)
    have hb : ∀ z ∈ (nms 8 d pre.length).map D.str, Tm 8 z := fun z hz => by
      obtain ⟨x, hx, rfl⟩ := List.mem_map.mp hz
      rcases foldS_mem hx with h | h
      · cases h
      · obtain ⟨z, hz, h2⟩ := List.mem_filterMap.mp h
        have := prt_ok hd z (List.mem_of_mem_take hz)
        cases z <;> simp only [stD, Option.some.injEq, reduceCtorEq] at h2
        rw [← h2]; exact this
    have l1 : (fnd 8 d pre.length).length ≤ 1000000 := by
      have := fold_len (xs := (prt 8 d).take pre.length) (acc := [])
      rw [List.length_take, List.length_nil] at this
      unfold fnd; omega
    have l2 : ((nms 8 d pre.length).map D.str).length ≤ 1000000 := by
      have := foldS_len (xs := ((prt 8 d).take pre.length).filterMap stD) (acc := [])
      have h2 := List.length_filterMap_le stD ((prt 8 d).take pre.length)
      rw [List.length_take] at h2
      rw [List.length_nil] at this
      rw [List.length_map]; unfold nms; omega
    have key := hN ⟨c, [.im d, .im (.lst (prt 8 d)), .own (.lst (fnd 8 d (pre.length + 1))), .own (.lst ((nms 8 d (pre.length + 1)).map D.str)), .im (prt 8 d)[pre.length], .no, .no, .no, .no], false⟩ ⟨_, by rw [List.length_append, List.length_singleton]⟩
    rw [hf, hn] at key
    revert key hte
    generalize (prt 8 d)[pre.length] = e
    intro hte key
    generalize fnd 8 d pre.length = acc at *
    generalize nms 8 d pre.length = nam at *
    refine ⟨_, _, rfl, rfl, okN_ok hte.ok, lst_ok ha (by decide), _, rfl, ?_⟩
    -- the second row
    have second : ∀ acc2 : List D, N ⟨c, [.im d, .im (.lst (prt 8 d)), .own (.lst acc2), .own (.lst ((match stD e with | some x => addS nam x | none => nam).map D.str)), .im e, .no, .no, .no, .no], false⟩ →
        dIfS (dAnd (dTest (dCB oIsi (dCons (dVar 4) (dCons (dC (.ty "str")) dNil)))) (dTest (dBin oNotIn (dVar 4) (dVar 3)))) (dApp 3 (dVar 4)) dNext { nx := N, rt := k, bk := fun _ => False, ct := N, ex := fun s x => kx s.c x } ⟨c, [.im d, .im (.lst (prt 8 d)), .own (.lst acc2), .own (.lst (nam.map D.str)), .im e, .no, .no, .no, .no], false⟩ := fun acc2 hk => by
      cases hte with
      | @u _ x hx hl =>
        refine ⟨_, "str", _, "str", true, rfl, rfl, rfl, by decide +kernel, true, rfl, ?_⟩
        refine ⟨_, _, rfl, rfl, okN_ok (Tm.u (n := 8) hx hl).ok, lst_ok hb (by decide), _, rfl, ?_⟩
        have hk : N ⟨c, [.im d, .im (.lst (prt 8 d)), .own (.lst acc2), .own (.lst ((addS nam x).map D.str)), .im (.str x), .no, .no, .no, .no], false⟩ := hk
        have hh := addS_if nam x (fun nn => N ⟨c, [.im d, .im (.lst (prt 8 d)), .own (.lst acc2), .own (.lst (nn.map D.str)), .im (.str x), .no, .no, .no, .no], false⟩) hk
        cases q : (!(nam.map D.str).any fun z => eqD z (.str x)) with
        | true =>
          rw [q] at hh
          rw [if_pos rfl, List.map_append] at hh
          exact ⟨_, rfl, l2, _, rfl, rfl, hh⟩
        | false =>
          rw [q] at hh
          exact hh
      | @a _ f ds hf hl hds =>
        exact ⟨_, "str", _, "tuple", false, rfl, rfl, rfl, by decide +kernel, false, rfl, hk⟩
    have hh := addD_if acc e (fun a2 => N ⟨c, [.im d, .im (.lst (prt 8 d)), .own (.lst a2), .own (.lst ((match stD e with | some x => addS nam x | none => nam).map D.str)), .im e, .no, .no, .no, .no], false⟩) key
    cases q : (!acc.any fun z => eqD z e) with
    | true =>
      rw [q] at hh
      exact ⟨_, rfl, l1, _, rfl, rfl, second _ hh⟩
    | false =>
      rw [q] at hh
      exact second _ hh
  rintro s ⟨x, rfl⟩
  have ef : fnd 8 d (prt 8 d).length = (prt 8 d).foldl addD [] := by unfold fnd; rw [List.take_length]
  have en : nms 8 d (prt 8 d).length = unk 8 d := by unfold nms unk; rw [List.take_length, str_prt hd]
  rw [ef, en]
  have tB : ∀ z ∈ (prt 8 d).foldl addD [], Tm 8 z := fun z hz => (fold_mem hz).elim (fun h => by cases h) fun h => prt_ok hd z h
  have tC : ∀ z ∈ (unk 8 d).map D.str, Tm 8 z := fun z hz => by
    obtain ⟨x, hx, rfl⟩ := List.mem_map.mp hz
    rcases foldS_mem hx with h | h
    · cases h
    · exact .u (strN_ok hd x h).1 (strN_ok hd x h).2
  have lB : ((prt 8 d).foldl addD []).length ≤ 65536 := by
    have := fold_len (xs := prt 8 d) (acc := [])
    rw [List.length_nil] at this; omega
  have lC : ((unk 8 d).map D.str).length ≤ 65536 := by
    have := foldS_len (xs := strN 8 d) (acc := [])
    have h2 : (strN 8 d).length ≤ 65536 := strN_len hd
    rw [List.length_nil] at this
    rw [List.length_map]; unfold unk; omega
  have lA : ((plN 8 d).map encP).length ≤ 65536 := by rw [List.length_map]; exact hbig
  have oA : okN 9 (.lst ((plN 8 d).map encP)) = true := by
    refine okN_mono (n := 2) (by decide) ?_
    unfold okN
    rw [List.all_eq_true]
    intro x hx
    obtain ⟨p, _, rfl⟩ := List.mem_map.mp hx
    unfold encP okN
    rw [List.all_eq_true]
    intro y hy
    obtain ⟨i, _, rfl⟩ := List.mem_map.mp hy
    unfold okN; rfl
  have oL : ∀ {ds : List D}, (∀ z ∈ ds, Tm 8 z) → okN 9 (.lst ds) = true := fun {ds} h => by
    unfold okN
    rw [List.all_eq_true]
    exact fun x hx => (h x hx).ok
  have oD : okN 10 (.lst [.lst ((plN 8 d).map encP), .lst ((prt 8 d).foldl addD []), .lst ((unk 8 d).map D.str)]) = true := by
    unfold okN
    simp only [List.all_cons, List.all_nil, Bool.and_true, Bool.and_eq_true]
    exact ⟨oA, oL tB, oL tC⟩
  refine ⟨rfl, rfl, d, rfl, hd, trivial, ?_⟩
  refine ⟨_, "int", _, "int", true, rfl, rfl, rfl, by decide +kernel, true, rfl, ?_⟩
  refine ⟨_, "bool", _, "int", false, rfl, rfl, rfl, by decide +kernel, false, rfl, ?_⟩
  refine ⟨_, _, (prt 8 d).length, rfl, rfl, rfl, _, _, _, _, rfl, rfl, rfl, rfl, rfl, false, by rw [hpl, decide_eq_true rfl]; rfl, ?_⟩
  refine ⟨(plN 8 d).map encP, (prt 8 d).foldl addD [], (unk 8 d).map D.str, [.lst ((plN 8 d).map encP), .lst ((prt 8 d).foldl addD []), .lst ((unk 8 d).map D.str)], (by decide : 6 < 9), ⟨rfl, rfl, d, rfl, hd, rfl, rfl⟩, ⟨rfl, rfl, d, rfl, hd, rfl, rfl⟩, ⟨rfl, rfl, d, rfl, hd, rfl, rfl⟩, by omega, by omega, by omega, okN_ok oD, okN_ok oD, eqD_self oD, fun t => ?_⟩
  refine ⟨rfl, rfl, d, rfl, hd, _, rfl, len_ok rfl, trivial, rfl, rfl, ?_⟩
  refine ⟨rfl, rfl, d, rfl, hd, rfl, rfl, d, rfl, hd, rfl, rfl, d, rfl, hd, _, rfl, len_ok rfl, _, _, rfl, rfl, okN_ok oD, okN_ok oD, ?_⟩
  have hq := eqD_self oD
  have hk : k c (.im (.bl (eqD (.lst [.lst ((plN 8 d).map encP), .lst ((prt 8 d).foldl addD []), .lst ((unk 8 d).map D.str)]) (.lst [.lst ((plN 8 d).map encP), .lst ((prt 8 d).foldl addD []), .lst ((unk 8 d).map D.str)])))) := by rw [hq]; exact h
  exact ⟨trivial, hk⟩
end K86

/-! ## FL1 -/
set_option Elab.async false
set_option linter.all false
set_option autoImplicit false
set_option maxRecDepth 100000
set_option maxHeartbeats 400000
namespace DL
open PySem L2
/-! ### functions in the place of readings: what draws nothing -/
inductive Rs (α : Type) where
  | ok (a : α) | ex (x : XD) | bad
namespace Rs
variable {α β : Type}
def bnd (x : Rs α) (f : α → Rs β) : Rs β := match x with | .ok a => f a | .ex e => .ex e | .bad => .bad
@[simp] theorem bnd_ok (a : α) (f : α → Rs β) : (Rs.ok a).bnd f = f a := rfl
@[simp] theorem bnd_ex (a : XD) (f : α → Rs β) : (Rs.ex a : Rs α).bnd f = .ex a := rfl
@[simp] theorem bnd_bad (f : α → Rs β) : (Rs.bad : Rs α).bnd f = .bad := rfl
def ofO (x : Option α) : Rs α := match x with | some a => .ok a | none => .bad
@[simp] theorem ofO_some (a : α) : ofO (some a) = .ok a := rfl
@[simp] theorem ofO_none : (ofO none : Rs α) = .bad := rfl
/-- no error comes out -/
def nox (x : Rs α) : Rs α := match x with | .ok a => .ok a | _ => .bad
@[simp] theorem nox_ok (a : α) : (Rs.ok a).nox = .ok a := rfl
/-- what follows -/
def go (x : Rs α) (k : α → Prop) (kx : XD → Prop) : Prop := match x with | .ok a => k a | .ex e => kx e | .bad => False
theorem go_bnd {x : Rs α} {f : α → Rs β} {k : β → Prop} {kx : XD → Prop} (h : (x.bnd f).go k kx) : x.go (fun a => (f a).go k kx) kx := by cases x <;> exact h
theorem go_mono {x : Rs α} {k k' : α → Prop} {kx : XD → Prop} (h : x.go k kx) (m : ∀ a, k a → k' a) : x.go k' kx := by
  cases x with
  | ok a => exact m a h
  | ex e => exact h
  | bad => exact h
theorem go_ofO {x : Option α} {k : α → Prop} {kx : XD → Prop} (h : (ofO x).go k kx) : ∃ a, x = some a ∧ k a := by
  cases x with
  | some a => exact ⟨a, rfl, h⟩
  | none => exact h.elim
end Rs
abbrev FE := List Sl → Rs Sl
abbrev FA := List Sl → Rs (List Sl)
abbrev FT := List Sl → Rs Bool
abbrev FO := List Sl → Rs (Option Int)
abbrev FI := List Sl → Rs (List D)
def lE (f : FE) : SE := fun s k kx => (f s.Γ).go (k s) (fun x => ∀ b, kx { s with b := b } x)
def lA (f : FA) : SA := fun s k kx => (f s.Γ).go (k s) (fun x => ∀ b, kx { s with b := b } x)
def lT (f : FT) : ST := fun s k kx => (f s.Γ).go (k s) (fun x => ∀ b, kx { s with b := b } x)
def lO (f : FO) : SO := fun s k kx => (f s.Γ).go (k s) (fun x => ∀ b, kx { s with b := b } x)
def lI (f : FI) : SI := fun s k kx => (f s.Γ).go (k s) (fun x => ∀ b, kx { s with b := b } x)
section
variable {X : Cx} {W : WX}
theorem _root_.L2.PE.leE {e : Expr} {f : SE} {g : SE} (h : PE X e (tD X.K W f)) (q : ∀ s k kx, g s k kx → f s k kx) : PE X e (tD X.K W g) :=
  PE.imp h fun σ H Q ⟨R, H0, Hb0, s, τ, Hb, k, kx, e, hf, hk, hx⟩ => ⟨R, H0, Hb0, s, τ, Hb, k, kx, e, q _ _ _ hf, hk, hx⟩
theorem _root_.L2.PA.leA {e : List Expr} {f : SA} {g : SA} (h : PA X e (tA X.K W f)) (q : ∀ s k kx, g s k kx → f s k kx) : PA X e (tA X.K W g) :=
  ⟨fun pos pins s σ H Q I ⟨R, H0, Hb0, s', τ, Hb, k, kx, e, hf, hk, hx⟩ => h.run pos pins s σ H Q I ⟨R, H0, Hb0, s', τ, Hb, k, kx, e, q _ _ _ hf, hk, hx⟩⟩
theorem _root_.L2.PT.leT {e : Expr} {f : ST} {g : ST} (h : PT X e (tT X.K W f)) (q : ∀ s k kx, g s k kx → f s k kx) : PT X e (tT X.K W g) :=
  ⟨fun pins s σ H Q I ⟨R, H0, Hb0, s', τ, Hb, k, kx, e, hf, hk, hx⟩ => h.run pins s σ H Q I ⟨R, H0, Hb0, s', τ, Hb, k, kx, e, q _ _ _ hf, hk, hx⟩⟩
theorem _root_.L2.PW.leT {e : Expr} {f : ST} {g : ST} (h : PW X e (tT X.K W f)) (q : ∀ s k kx, g s k kx → f s k kx) : PW X e (tT X.K W g) :=
  ⟨fun wh pins s σ H Q I ⟨R, H0, Hb0, s', τ, Hb, k, kx, e, hf, hk, hx⟩ => h.run wh pins s σ H Q I ⟨R, H0, Hb0, s', τ, Hb, k, kx, e, q _ _ _ hf, hk, hx⟩⟩
theorem _root_.L2.PTs.leT {e : List Expr} {f : ST} {g : ST} (h : PTs X e (tT X.K W f)) (q : ∀ s k kx, g s k kx → f s k kx) : PTs X e (tT X.K W g) :=
  ⟨fun pins s σ H Q I ⟨R, H0, Hb0, s', τ, Hb, k, kx, e, hf, hk, hx⟩ => h.run pins s σ H Q I ⟨R, H0, Hb0, s', τ, Hb, k, kx, e, q _ _ _ hf, hk, hx⟩⟩
theorem _root_.L2.PO.leO {e : Option Expr} {f : SO} {g : SO} (h : PO X e (tO X.K W f)) (q : ∀ s k kx, g s k kx → f s k kx) : PO X e (tO X.K W g) :=
  ⟨fun pins s σ H Q I ⟨R, H0, Hb0, s', τ, Hb, k, kx, e, hf, hk, hx⟩ => h.run pins s σ H Q I ⟨R, H0, Hb0, s', τ, Hb, k, kx, e, q _ _ _ hf, hk, hx⟩⟩
theorem _root_.L2.PI.leI {tg iter : Expr} {f : SI} {g : SI} (h : PI X tg iter (tI X.K W f)) (q : ∀ s k kx, g s k kx → f s k kx) : PI X tg iter (tI X.K W g) :=
  ⟨fun pins s σ H Q I ⟨R, H0, Hb0, s', τ, Hb, k, kx, e, hf, hk, hx⟩ => h.run pins s σ H Q I ⟨R, H0, Hb0, s', τ, Hb, k, kx, e, q _ _ _ hf, hk, hx⟩⟩
theorem _root_.L2.PS.leS {e : Stmt} {f : SS} {g : SS} (h : PS X e (tS X.K W f)) (q : ∀ E s, s.b = false → g E s → f E s) : PS X e (tS X.K W g) :=
  ⟨fun pins s σ H D I ⟨R, H0, Hb0, s', τ, Hb, E, e, hb, hf, he⟩ => h.run pins s σ H D I ⟨R, H0, Hb0, s', τ, Hb, E, e, hb, q _ _ hb hf, he⟩⟩
theorem _root_.L2.PSs.leS {e : List Stmt} {f : SS} {g : SS} (h : PSs X e (tS X.K W f)) (q : ∀ E s, s.b = false → g E s → f E s) : PSs X e (tS X.K W g) :=
  ⟨fun pins s σ H D I ⟨R, H0, Hb0, s', τ, Hb, E, e, hb, hf, he⟩ => h.run pins s σ H D I ⟨R, H0, Hb0, s', τ, Hb, E, e, hb, q _ _ hb hf, he⟩⟩
theorem pend_Γ {r : Sl} {s : S} : (pend r s).Γ = s.Γ := by cases r <;> rfl
theorem pend_c {r : Sl} {s : S} : (pend r s).c = s.c := by cases r <;> rfl
theorem pend_back {r : Sl} {s : S} : ({ pend r s with b := s.b } : S) = s := by cases r <;> rfl
end
/-! ### expressions -/
def fVar (i : Nat) : FE := fun Γ => match Γ[i]? with
  | some (.im d) => .ok (.im d)
  | some (.own d) => .ok (.bor d)
  | some .rng => .ok .rng
  | _ => .bad
def fC (d : D) : FE := fun _ => .ok (.im d)
abbrev P2 := Sl → Sl → Option Sl
def fBin (op : P2) (f g : FE) : FE := fun Γ => (f Γ).bnd fun a => (g Γ).bnd fun b => .ofO (op (imm a) (imm b))
def fBinK (op : P2) (f g : FE) : FE := fun Γ => (f Γ).bnd fun a => (g Γ).bnd fun b => .ofO (op a b)
def fUn (op : Sl → Option Sl) (f : FE) : FE := fun Γ => (f Γ).bnd fun a => .ofO (op (imm a))
def fNil : FA := fun _ => .ok []
def fCons (f : FE) (g : FA) : FA := fun Γ => (f Γ).bnd fun a => (g Γ).bnd fun as => .ok (imm a :: as)
def fCB (op : List Sl → Option Sl) (f : FA) : FE := fun Γ => (f Γ).bnd fun as => .ofO (op as)
def fTup (f : FA) : FE := fun Γ => (f Γ).bnd fun as => .ofO ((ims as).bind fun ds => if ds.length ≤ 1000000 then some (.im (.tup ds)) else none)
def fLst (f : FA) : FE := fun Γ => (f Γ).bnd fun as => .ofO ((ims as).bind fun ds => if ds.length ≤ 1000000 then some (.own (.lst ds)) else none)
def fCall (n : Nat) (F : List D → Rs Sl) (f : FA) : FE := fun Γ => (f Γ).bnd fun as => match ims as with | some ds => if ds.length = n then F ds else .bad | none => .bad
def blS : Sl → Option Bool
  | .im (.bl b) => some b
  | _ => none
def fTest (f : FE) : FT := fun Γ => (f Γ).bnd fun r => .ofO (blS r)
def fTru (f : FE) : FT := fun Γ => (f Γ).bnd fun r => .ofO ((rdD (imm r)).bind truD)
def fNot (f : FT) : FT := fun Γ => (f Γ).bnd fun b => .ok (!b)
def fAnd (f g : FT) : FT := fun Γ => (f Γ).bnd fun b => if b = true then g Γ else .ok false
def fOr (f g : FT) : FT := fun Γ => (f Γ).bnd fun b => if b = true then .ok true else g Γ
def fTrue : FT := fun _ => .ok true
def fAndV (f g : FE) : FE := fun Γ => (f Γ).bnd fun r => (Rs.ofO (blS r)).bnd fun b => if b = true then g Γ else .ok (.im (.bl false))
def fOrV (f g : FE) : FE := fun Γ => (f Γ).bnd fun r => (Rs.ofO (blS r)).bnd fun b => if b = true then .ok (.im (.bl true)) else g Γ
def fNotV (f : FE) : FE := fun Γ => (f Γ).bnd fun r => (Rs.ofO (blS r)).bnd fun b => .ok (.im (.bl (!b)))
def fIfE (t : FT) (f g : FE) : FE := fun Γ => (t Γ).bnd fun b => if b = true then f Γ else g Γ
def fChain (op op' : P2) (f g h : FE) : FE := fun Γ => (f Γ).bnd fun a => (g Γ).bnd fun b => (Rs.ofO (op (imm a) (imm b))).bnd fun r => (Rs.ofO (blS r)).bnd fun t => if t = true then (h Γ).bnd fun c => .ofO (op' (imm b) (imm c)) else .ok (.im (.bl false))
def fNoP : FO := fun _ => .ok none
def inS : Sl → Option Int
  | .im (.int i) => some i
  | _ => none
def fPart (f : FE) : FO := fun Γ => (f Γ).bnd fun r => (Rs.ofO (inS r)).bnd fun i => .ok (some i)
def fSl (op : Sl → Option Int → Option Int → Option Sl) (f : FE) (lo hi : FO) : FE := fun Γ => (f Γ).bnd fun a => (lo Γ).bnd fun l => (hi Γ).bnd fun u => .ofO (op (imm a) l u)
/-! what is walked -/
def lsS : Sl → Option (List D)
  | .im (.lst ds) => some ds
  | _ => none
def tuS : Sl → Option (List D)
  | .im (.tup ds) => some ds
  | _ => none
def fIt (f : FE) : FI := fun Γ => (f Γ).bnd fun r => .ofO (lsS (imm r))
def fItT (f : FE) : FI := fun Γ => (f Γ).bnd fun r => .ofO (tuS (imm r))
def fRng1 (f : FE) : FI := fun Γ => (f Γ).bnd fun r => (Rs.ofO (inS (imm r))).bnd fun j => if j ≤ 1000000000 ∧ -1000000000 ≤ j then .ok (upFrom 0 j.toNat) else .bad
def fRng2 (f g : FE) : FI := fun Γ => (f Γ).bnd fun r => (g Γ).bnd fun r' => (Rs.ofO (inS (imm r))).bnd fun i => (Rs.ofO (inS (imm r'))).bnd fun j => if i ≤ 1000000000 ∧ -1000000000 ≤ i ∧ j ≤ 1000000000 ∧ -1000000000 ≤ j then .ok (upFrom i (j - i).toNat) else .bad
/-! targets -/
abbrev FG := D → List Sl → Option (List Sl)
def hN (i : Nat) : FG := fun d Γ => some (Γ.set i (.im d))
def hT2 (g1 g2 : FG) : FG := fun d Γ => match d with | .tup [a, b] => (g1 a Γ).bind (g2 b) | _ => none
def hT3 (g1 g2 g3 : FG) : FG := fun d Γ => match d with | .tup [a, b, c] => ((g1 a Γ).bind (g2 b)).bind (g3 c) | _ => none
/-! comprehensions: each item may give a value -/
def imS : Sl → Option D
  | .im y => some y
  | _ => none
def compF (tg : FG) (tt : FT) (te : FE) (Γ : List Sl) : List D → Rs (List D)
  | [] => .ok []
  | d :: ds => (Rs.ofO (tg d Γ)).bnd fun Γ1 => (tt Γ1).bnd fun t => if t = true then ((te Γ1).bnd fun r => Rs.ofO (imS (imm r))).bnd fun y => (compF tg tt te Γ ds).bnd fun ys => .ok (y :: ys) else compF tg tt te Γ ds
/-- these slots are empty -/
def noB (Γ : List Sl) (vs : List Nat) : Bool := vs.all fun v => match Γ[v]? with | some .no => true | none => true | _ => false
def fLc (src : FI) (vs : List Nat) (tg : FG) (tt : FT) (te : FE) : FE := fun Γ => (src Γ).bnd fun ds => if noB Γ vs = true then (compF tg tt te Γ ds).nox.bnd fun ys => (if ys.length ≤ 1000000 then .ok (.own (.lst ys)) else .bad) else .bad
end DL

/-! ## FL2 -/
set_option Elab.async false
set_option linter.all false
set_option autoImplicit false
set_option maxRecDepth 100000
set_option maxHeartbeats 400000
namespace DL
open PySem L2
def OpF (op : Sl → Sl → (Sl → Prop) → Prop) (op' : P2) : Prop := ∀ x y r (k : Sl → Prop), op' x y = some r → k r → op x y k
def UnF (op : Sl → (Sl → Prop) → Prop) (op' : Sl → Option Sl) : Prop := ∀ x r (k : Sl → Prop), op' x = some r → k r → op x k
def CbF (op : List Sl → (Sl → Prop) → Prop) (op' : List Sl → Option Sl) : Prop := ∀ x r (k : Sl → Prop), op' x = some r → k r → op x k
def SlF (op : Sl → Option Int → Option Int → (Sl → Prop) → Prop) (op' : Sl → Option Int → Option Int → Option Sl) : Prop := ∀ x l u r (k : Sl → Prop), op' x l u = some r → k r → op x l u k
section
variable {f g h : FE} {s : S} {k : S → Sl → Prop} {kx : KX} {fs : FA} {t u : FT}
theorem pend_b {r : Sl} {b : Bool} : ({ pend r s with b := b } : S) = { s with b := b } := by cases r <;> rfl
/-- a part of an expression is read behind a value at hand -/
theorem at_pend {α : Type} {f : List Sl → Rs α} {a : Sl} {K : α → Prop} {k : S → α → Prop} (h : (f s.Γ).go K (fun x => ∀ b, kx { s with b := b } x)) (m : ∀ b, K b → k (pend a s) b) : (f (pend a s).Γ).go (k (pend a s)) (fun x => ∀ b, kx { pend a s with b := b } x) := by
  have e : (f (pend a s).Γ) = f s.Γ := by rw [pend_Γ]
  rw [e]
  cases q : f s.Γ with
  | ok b => rw [q] at h; exact m b h
  | ex x =>
    rw [q] at h
    intro b
    rw [pend_b]
    exact h b
  | bad => rw [q] at h; exact h
theorem at_pendE {a : Sl} {K : Sl → Prop} {k : S → Sl → Prop} (h : (f s.Γ).go K (fun x => ∀ b, kx { s with b := b } x)) (m : ∀ b, K b → k (pend a s) b) : lE f (pend a s) k kx := at_pend h m
theorem at_pendA {a : Sl} {K : List Sl → Prop} {k : S → List Sl → Prop} (h : (fs s.Γ).go K (fun x => ∀ b, kx { s with b := b } x)) (m : ∀ b, K b → k (pend a s) b) : lA fs (pend a s) k kx := at_pend h m
theorem at_pendO {lo : FO} {a : Sl} {K : Option Int → Prop} {k : S → Option Int → Prop} (h : (lo s.Γ).go K (fun x => ∀ b, kx { s with b := b } x)) (m : ∀ b, K b → k (pend a s) b) : lO lo (pend a s) k kx := at_pend h m
theorem le_var {i : Nat} (h : lE (fVar i) s k kx) : dVar i s k kx := by
  unfold lE fVar at h
  unfold dVar
  cases q : s.Γ[i]? with
  | none => rw [q] at h; exact h
  | some t => rw [q] at h; cases t <;> exact h
theorem le_c {d : D} (h : lE (fC d) s k kx) : dC d s k kx := h
theorem le_bin {op : Sl → Sl → (Sl → Prop) → Prop} {op' : P2} (hq : OpF op op') (h : lE (fBin op' f g) s k kx) : dBin op (lE f) (lE g) s k kx := by
  refine Rs.go_mono (Rs.go_bnd h) fun a h => ?_
  refine at_pendE (Rs.go_bnd h) fun b h => ?_
  obtain ⟨r, h1, h2⟩ := Rs.go_ofO h
  refine hq _ _ _ _ h1 ?_
  rw [pend_back]; exact h2
theorem le_binK {op : Sl → Sl → (Sl → Prop) → Prop} {op' : P2} (hq : OpF op op') (h : lE (fBinK op' f g) s k kx) : dBinK op (lE f) (lE g) s k kx := by
  refine Rs.go_mono (Rs.go_bnd h) fun a h => ?_
  refine at_pendE (Rs.go_bnd h) fun b h => ?_
  obtain ⟨r, h1, h2⟩ := Rs.go_ofO h
  refine hq _ _ _ _ h1 ?_
  rw [pend_back]; exact h2
theorem le_un {op : Sl → (Sl → Prop) → Prop} {op' : Sl → Option Sl} (hq : UnF op op') (h : lE (fUn op' f) s k kx) : dUn op (lE f) s k kx := by
  refine Rs.go_mono (Rs.go_bnd h) fun a h => ?_
  obtain ⟨r, h1, h2⟩ := Rs.go_ofO h
  exact hq _ _ _ h1 h2
theorem le_nil {k : S → List Sl → Prop} (h : lA fNil s k kx) : dNil s k kx := h
theorem le_cons {k : S → List Sl → Prop} (h : lA (fCons f fs) s k kx) : dCons (lE f) (lA fs) s k kx := by
  refine Rs.go_mono (Rs.go_bnd h) fun a h => ?_
  refine at_pendA (Rs.go_bnd h) fun as h => ?_
  rw [pend_back]; exact h
theorem le_cb {op : List Sl → (Sl → Prop) → Prop} {op' : List Sl → Option Sl} (hq : CbF op op') (h : lE (fCB op' fs) s k kx) : dCB op (lA fs) s k kx := by
  refine Rs.go_mono (Rs.go_bnd h) fun a h => ?_
  obtain ⟨r, h1, h2⟩ := Rs.go_ofO h
  exact hq _ _ _ h1 h2
theorem le_tup (h : lE (fTup fs) s k kx) : dTup (lA fs) s k kx := by
  refine Rs.go_mono (Rs.go_bnd h) fun a h => ?_
  obtain ⟨r, h1, h2⟩ := Rs.go_ofO h
  obtain ⟨ds, h3, h4⟩ := Option.bind_eq_some_iff.mp h1
  split at h4
  · cases h4; exact ⟨ds, h3, by assumption, h2⟩
  · cases h4
theorem le_lst (h : lE (fLst fs) s k kx) : dLst (lA fs) s k kx := by
  refine Rs.go_mono (Rs.go_bnd h) fun a h => ?_
  obtain ⟨r, h1, h2⟩ := Rs.go_ofO h
  obtain ⟨ds, h3, h4⟩ := Option.bind_eq_some_iff.mp h1
  split at h4
  · cases h4; exact ⟨ds, h3, by assumption, h2⟩
  · cases h4
/-- a def that draws nothing -/
def gF (n : Nat) (F : List D → Rs Sl) : SF := fun c as k kx => ∃ ds, ims as = some ds ∧ ds.length = n ∧ (F ds).go (k c) (kx c)
theorem ims_all : ∀ {as : List Sl} {ds : List D}, ims as = some ds → as.all argIm = true ∧ as.length = ds.length
  | [], ds, h => by cases h; exact ⟨rfl, rfl⟩
  | a :: as, ds, h => by
    cases a <;> simp only [ims, Option.map_eq_some_iff, reduceCtorEq] at h
    obtain ⟨es, h1, rfl⟩ := h
    obtain ⟨h2, h3⟩ := ims_all h1
    exact ⟨by rw [List.all_cons, h2]; rfl, congrArg (· + 1) h3⟩
theorem le_call {n : Nat} {F : List D → Rs Sl} (h : lE (fCall n F fs) s k kx) : dCall n (gF n F) (lA fs) s k kx := by
  refine Rs.go_mono (Rs.go_bnd h) fun a h => ?_
  split at h
  · rename_i ds hd
    split at h
    · rename_i hn
      obtain ⟨h1, h2⟩ := ims_all hd
      refine ⟨h2.trans hn, h1, ds, hd, hn, ?_⟩
      cases q : F ds with
      | ok r => rw [q] at h; exact h
      | ex x => rw [q] at h; exact h s.b
      | bad => rw [q] at h; exact h
    · exact h.elim
  · exact h.elim
theorem blS_some {r : Sl} {b : Bool} (h : blS r = some b) : r = .im (.bl b) := by
  unfold blS at h
  split at h
  · cases h; rfl
  · cases h
theorem le_test {k : S → Bool → Prop} (h : lT (fTest f) s k kx) : dTest (lE f) s k kx := by
  refine Rs.go_mono (Rs.go_bnd h) fun a h => ?_
  obtain ⟨b, h1, h2⟩ := Rs.go_ofO h
  exact ⟨b, blS_some h1, h2⟩
theorem le_tru {k : S → Bool → Prop} (h : lT (fTru f) s k kx) : dTru (lE f) s k kx := by
  refine Rs.go_mono (Rs.go_bnd h) fun a h => ?_
  obtain ⟨b, h1, h2⟩ := Rs.go_ofO h
  obtain ⟨d, h3, h4⟩ := Option.bind_eq_some_iff.mp h1
  exact ⟨d, b, h3, h4, h2⟩
theorem le_not {k : S → Bool → Prop} (h : lT (fNot t) s k kx) : dNot (lT t) s k kx := Rs.go_mono (Rs.go_bnd h) fun a h => h
theorem le_and {k : S → Bool → Prop} (h : lT (fAnd t u) s k kx) : dAnd (lT t) (lT u) s k kx := by
  refine Rs.go_mono (Rs.go_bnd h) fun a h => ?_
  cases a <;> exact h
theorem le_or {k : S → Bool → Prop} (h : lT (fOr t u) s k kx) : dOr (lT t) (lT u) s k kx := by
  refine Rs.go_mono (Rs.go_bnd h) fun a h => ?_
  cases a <;> exact h
theorem le_true {k : S → Bool → Prop} (h : lT fTrue s k kx) : dTrue s k kx := h
theorem le_andV (h : lE (fAndV f g) s k kx) : dAndV (lE f) (lE g) s k kx := by
  refine Rs.go_mono (Rs.go_bnd h) fun a h => ?_
  obtain ⟨b, h1, h2⟩ := Rs.go_ofO (Rs.go_bnd h)
  refine ⟨b, blS_some h1, ?_⟩
  cases b <;> exact h2
theorem le_orV (h : lE (fOrV f g) s k kx) : dOrV (lE f) (lE g) s k kx := by
  refine Rs.go_mono (Rs.go_bnd h) fun a h => ?_
  obtain ⟨b, h1, h2⟩ := Rs.go_ofO (Rs.go_bnd h)
  refine ⟨b, blS_some h1, ?_⟩
  cases b <;> exact h2
theorem le_notV (h : lE (fNotV f) s k kx) : dNotV (lE f) s k kx := by
  refine Rs.go_mono (Rs.go_bnd h) fun a h => ?_
  obtain ⟨b, h1, h2⟩ := Rs.go_ofO (Rs.go_bnd h)
  exact ⟨b, blS_some h1, h2⟩
theorem le_if (h : lE (fIfE t f g) s k kx) : dIf (lT t) (lE f) (lE g) s k kx := by
  refine Rs.go_mono (Rs.go_bnd h) fun a h => ?_
  cases a <;> exact h
theorem le_chain {op o2 : Sl → Sl → (Sl → Prop) → Prop} {op' o2' : P2} (hq : OpF op op') (hq2 : OpF o2 o2') (hh : lE (fChain op' o2' f g h) s k kx) : dChain op o2 (lE f) (lE g) (lE h) s k kx := by
  refine Rs.go_mono (Rs.go_bnd hh) fun a hh => ?_
  refine at_pendE (Rs.go_bnd hh) fun b hh => ?_
  obtain ⟨r, h1, h2⟩ := Rs.go_ofO (Rs.go_bnd hh)
  obtain ⟨t, h3, h4⟩ := Rs.go_ofO (Rs.go_bnd h2)
  refine hq _ _ _ _ h1 ⟨t, blS_some h3, ?_⟩
  rw [pend_back]
  cases t with
  | true =>
    rw [if_pos rfl] at h4 ⊢
    refine at_pendE (Rs.go_bnd h4) fun c h5 => ?_
    obtain ⟨r, h6, h7⟩ := Rs.go_ofO h5
    refine hq2 _ _ _ _ h6 ?_
    rw [pend_back]; exact h7
  | false => exact h4
theorem le_noP {k : S → Option Int → Prop} (h : lO fNoP s k kx) : dNoP s k kx := h
theorem inS_some {r : Sl} {b : Int} (h : inS r = some b) : r = .im (.int b) := by
  unfold inS at h
  split at h
  · cases h; rfl
  · cases h
theorem le_part {k : S → Option Int → Prop} (h : lO (fPart f) s k kx) : dPart (lE f) s k kx := by
  refine Rs.go_mono (Rs.go_bnd h) fun a h => ?_
  obtain ⟨b, h1, h2⟩ := Rs.go_ofO (Rs.go_bnd h)
  exact ⟨b, inS_some h1, h2⟩
theorem le_sl {op : Sl → Option Int → Option Int → (Sl → Prop) → Prop} {op' : Sl → Option Int → Option Int → Option Sl} {lo hi : FO} (hq : SlF op op') (h : lE (fSl op' f lo hi) s k kx) : dSl op (lE f) (lO lo) (lO hi) s k kx := by
  refine Rs.go_mono (Rs.go_bnd h) fun a h => ?_
  refine at_pendO (Rs.go_bnd h) fun l h => ?_
  refine at_pendO (Rs.go_bnd h) fun u h => ?_
  obtain ⟨r, h6, h7⟩ := Rs.go_ofO h
  refine hq _ _ _ _ _ h6 ?_
  rw [pend_back]; exact h7
theorem lsS_some {r : Sl} {b : List D} (h : lsS r = some b) : r = .im (.lst b) := by
  unfold lsS at h
  split at h
  · cases h; rfl
  · cases h
theorem tuS_some {r : Sl} {b : List D} (h : tuS r = some b) : r = .im (.tup b) := by
  unfold tuS at h
  split at h
  · cases h; rfl
  · cases h
theorem le_it {k : S → List D → Prop} (h : lI (fIt f) s k kx) : dIt (lE f) s k kx := by
  refine Rs.go_mono (Rs.go_bnd h) fun a h => ?_
  obtain ⟨b, h1, h2⟩ := Rs.go_ofO h
  have := lsS_some h1
  rw [this]
  exact ⟨b, rfl, h2⟩
theorem le_itT {k : S → List D → Prop} (h : lI (fItT f) s k kx) : dItT (lE f) s k kx := by
  refine Rs.go_mono (Rs.go_bnd h) fun a h => ?_
  obtain ⟨b, h1, h2⟩ := Rs.go_ofO h
  exact ⟨b, tuS_some h1, h2⟩
theorem le_rng1 {k : S → List D → Prop} (h : lI (fRng1 f) s k kx) : dRng1 (lA (fCons f fNil)) s k kx := by
  have e : fCons f fNil s.Γ = (f s.Γ).bnd fun a => .ok [imm a] := rfl
  show (fCons f fNil s.Γ).go _ _
  rw [e]
  unfold lI fRng1 at h
  cases q : f s.Γ with
  | ok r =>
    rw [q] at h
    obtain ⟨j, h1, h2⟩ := Rs.go_ofO (Rs.go_bnd h)
    have h2 := h2
    show ∃ j : Int, _
    rw [inS_some h1]
    by_cases z : j ≤ 1000000000 ∧ -1000000000 ≤ j
    · rw [if_pos z] at h2
      exact ⟨j, rfl, z.1, z.2, h2⟩
    · rw [if_neg z] at h2; exact h2.elim
  | ex x => rw [q] at h; exact h
  | bad => rw [q] at h; exact h.elim
theorem le_rng2 {k : S → List D → Prop} (h : lI (fRng2 f g) s k kx) : dRng2 (lA (fCons f (fCons g fNil))) s k kx := by
  have e : ∀ Γ, fCons f (fCons g fNil) Γ = (f Γ).bnd fun a => (g Γ).bnd fun b => .ok [imm a, imm b] := fun Γ => by
    show (f Γ).bnd (fun a => ((g Γ).bnd fun b => .ok [imm b]).bnd fun as => .ok (imm a :: as)) = _
    cases f Γ with
    | ok a => cases g Γ <;> rfl
    | _ => rfl
  show (fCons f (fCons g fNil) s.Γ).go _ _
  rw [e]
  unfold lI fRng2 at h
  cases q : f s.Γ with
  | ok r =>
    rw [q] at h
    cases q2 : g s.Γ with
    | ok r2 =>
      rw [Rs.bnd_ok, q2] at h
      obtain ⟨i, h1, h2⟩ := Rs.go_ofO (Rs.go_bnd h)
      obtain ⟨j, h3, h4⟩ := Rs.go_ofO (Rs.go_bnd h2)
      show ∃ i j : Int, _
      rw [inS_some h1, inS_some h3]
      by_cases z : i ≤ 1000000000 ∧ -1000000000 ≤ i ∧ j ≤ 1000000000 ∧ -1000000000 ≤ j
      · rw [if_pos z] at h4
        exact ⟨i, j, rfl, z, h4⟩
      · rw [if_neg z] at h4; exact h4.elim
    | ex x => rw [Rs.bnd_ok, q2] at h; exact h
    | bad => rw [Rs.bnd_ok, q2] at h; exact h.elim
  | ex x => rw [q] at h; exact h
  | bad => rw [q] at h; exact h.elim
end
end DL

/-! ## FL3 -/
set_option Elab.async false
set_option linter.all false
set_option autoImplicit false
set_option maxRecDepth 100000
set_option maxHeartbeats 400000
namespace DL
open PySem L2
/-! ### targets, comprehensions -/
def GgF (tg : TD) (tg' : FG) : Prop := ∀ d s (k : S → Prop) Γ', tg' d s.Γ = some Γ' → k { s with Γ := Γ' } → tg d s k
theorem gg_N {i : Nat} : GgF (gN i) (hN i) := fun d s k Γ' h q => by
  cases h
  exact q
theorem gg_T2 {g1 g2 : TD} {h1 h2 : FG} (a : GgF g1 h1) (b : GgF g2 h2) : GgF (gT2 g1 g2) (hT2 h1 h2) := fun d s k Γ' h q => by
  unfold hT2 at h
  split at h
  · rename_i x y
    obtain ⟨Γ1, e1, e2⟩ := Option.bind_eq_some_iff.mp h
    exact ⟨x, y, rfl, a _ _ _ _ e1 (b _ _ _ _ e2 q)⟩
  · cases h
theorem gg_T3 {g1 g2 g3 : TD} {h1 h2 h3 : FG} (a : GgF g1 h1) (b : GgF g2 h2) (c : GgF g3 h3) : GgF (gT3 g1 g2 g3) (hT3 h1 h2 h3) := fun d s k Γ' h q => by
  unfold hT3 at h
  split at h
  · rename_i x y z
    obtain ⟨Γ2, e0, e3⟩ := Option.bind_eq_some_iff.mp h
    obtain ⟨Γ1, e1, e2⟩ := Option.bind_eq_some_iff.mp e0
    exact ⟨x, y, z, rfl, a _ _ _ _ e1 (b _ _ _ _ e2 (c _ _ _ _ e3 q))⟩
  · cases h
theorem bnd_inv {α β : Type} {x : Rs α} {f : α → Rs β} {b : β} (h : x.bnd f = .ok b) : ∃ a, x = .ok a ∧ f a = .ok b := by
  cases x with
  | ok a => exact ⟨a, rfl, h⟩
  | ex e => cases h
  | bad => cases h
theorem ofO_inv {α : Type} {x : Option α} {b : α} (h : Rs.ofO x = .ok b) : x = some b := by
  cases x with
  | some a => cases h; rfl
  | none => cases h
theorem nox_inv {α : Type} {x : Rs α} {b : α} (h : x.nox = .ok b) : x = .ok b := by cases x <;> first | exact h | cases h
theorem imS_some {r : Sl} {b : D} (h : imS r = some b) : r = .im b := by
  unfold imS at h
  split at h
  · cases h; rfl
  · cases h
theorem noB_wipe {Γ : List Sl} : ∀ {vs : List Nat}, noB Γ vs = true → wipeΓ Γ vs = Γ
  | [], _ => rfl
  | v :: vs, h => by
    unfold noB at h
    rw [List.all_cons, Bool.and_eq_true] at h
    unfold wipeΓ
    rw [noB_wipe (vs := vs) h.2]
    apply List.ext_getElem?
    intro j
    by_cases e : v = j
    · subst e
      by_cases hl : v < Γ.length
      · rw [List.getElem?_set_self hl]
        have h1 := h.1
        rw [List.getElem?_eq_getElem hl] at h1 ⊢
        cases q : Γ[v] <;> rw [q] at h1 <;> first | rfl | cases h1
      · rw [List.getElem?_eq_none (by rw [List.length_set]; omega), List.getElem?_eq_none (by omega)]
    · rw [List.getElem?_set_ne e]
theorem loopC_F {tg : TD} {tg' : FG} {t : FT} {e : FE} {Γw : List Sl} {b : Bool} {k : Nat → List D → Prop} (hg : GgF tg tg') : ∀ (ds acc ys : List D) (c : Nat), compF tg' t e Γw ds = .ok ys → (acc ++ ys).length ≤ 1000000 → k c (acc ++ ys) → loopC Γw b tg (lT t) (lE e) k ds acc c
  | [], acc, ys, c, h, hl, hk => by
    cases h
    rw [List.append_nil] at hk
    exact hk
  | d :: ds, acc, ys, c, h, hl, hk => by
    unfold compF at h
    obtain ⟨Γ1, h1, h⟩ := bnd_inv h
    have h1 := ofO_inv h1
    obtain ⟨b', h2, h⟩ := bnd_inv h
    refine hg _ _ _ _ h1 ?_
    show (t Γ1).go _ _
    rw [h2]
    refine ⟨rfl, ?_⟩
    cases b' with
    | true =>
      rw [if_pos rfl] at h ⊢
      obtain ⟨y, h3, h⟩ := bnd_inv h
      obtain ⟨r, h4, h5⟩ := bnd_inv h3
      obtain ⟨zs, h6, h7⟩ := bnd_inv h
      cases h7
      show (e Γ1).go _ _
      rw [h4]
      have ha : acc ++ y :: zs = acc ++ [y] ++ zs := by simp
      refine ⟨rfl, y, imS_some (ofO_inv h5), ?_, loopC_F hg ds (acc ++ [y]) zs c h6 (ha ▸ hl) (ha ▸ hk)⟩
      rw [List.length_append] at hl
      omega
    | false =>
      rw [if_neg (by simp)] at h ⊢
      exact loopC_F hg ds acc ys c h hl hk
theorem le_lc {src : FI} {vs : List Nat} {tg : TD} {tg' : FG} {t : FT} {e : FE} {s : S} {k : S → Sl → Prop} {kx : KX} (hg : GgF tg tg') (h : lE (fLc src vs tg' t e) s k kx) : dLc (lI src) vs tg (lT t) (lE e) s k kx := by
  refine Rs.go_mono (Rs.go_bnd h) fun ds h => ?_
  by_cases hn : noB s.Γ vs = true
  · rw [if_pos hn] at h
    cases q : (compF tg' t e s.Γ ds).nox with
    | ok ys =>
      rw [q] at h
      rw [Rs.bnd_ok] at h
      by_cases hl : ys.length ≤ 1000000
      · rw [if_pos hl] at h
        have h : k s (.own (.lst ys)) := h
        have hw := noB_wipe hn
        show loopC (wipeΓ s.Γ vs) s.b tg (lT t) (lE e) (fun c acc => k ⟨c, wipeΓ s.Γ vs, s.b⟩ (.own (.lst acc))) ds [] s.c
        rw [hw]
        exact loopC_F hg ds [] ys s.c (nox_inv q) hl h
      · rw [if_neg hl] at h; exact h.elim
    | ex x => 
      unfold Rs.nox at q
      split at q <;> cases q
    | bad => rw [q] at h; exact h.elim
  · rw [if_neg hn] at h; exact h.elim
/-! ### statements -/
inductive Ou where
  | nx (Γ : List Sl) | rt (r : Sl) | bk (Γ : List Sl) | ct (Γ : List Sl) | xc (Γ : List Sl) (x : XD)
abbrev FS := List Sl → Option Ou
def ouGo (E : DE) (s : S) : Option Ou → Prop
  | some (.nx Γ) => E.nx { s with Γ := Γ }
  | some (.rt r) => E.rt s.c r
  | some (.bk Γ) => E.bk { s with Γ := Γ }
  | some (.ct Γ) => E.ct { s with Γ := Γ }
  | some (.xc Γ x) => ∀ b, E.ex { s with Γ := Γ, b := b } x
  | none => False
def lS (f : FS) : SS := fun E s => ouGo E s (f s.Γ)
def toS {α : Type} (x : Rs α) (Γ : List Sl) (k : α → Option Ou) : Option Ou := match x with
  | .ok a => k a
  | .ex x => some (.xc Γ x)
  | .bad => none
section
variable {α : Type} (Γ : List Sl) (k : α → Option Ou)
@[simp] theorem toS_ok (a : α) : toS (.ok a) Γ k = k a := rfl
@[simp] theorem toS_ex (x : XD) : toS (.ex x) Γ k = some (.xc Γ x) := rfl
@[simp] theorem toS_bad : toS .bad Γ k = none := rfl
theorem toS_go {E : DE} {s : S} {x : Rs α} {k : α → Option Ou} (h : ouGo E s (toS x s.Γ k)) : x.go (fun a => ouGo E s (k a)) (fun e => ∀ b, E.ex { s with b := b } e) := by cases x <;> exact h
end
def retB : Sl → Bool
  | .bor _ => false
  | .tmp _ => false
  | _ => true
theorem retB_ok {r : Sl} (h : retB r = true) : retable r := by cases r <;> first | trivial | cases h
def fNext : FS := fun Γ => some (.nx Γ)
def fSeq (f g : FS) : FS := fun Γ => match f Γ with
  | some (.nx Γ') => g Γ'
  | o => o
def fIf (t : FT) (f g : FS) : FS := fun Γ => toS (t Γ) Γ fun b => if b = true then f Γ else g Γ
def fRet (f : FE) : FS := fun Γ => toS (f Γ) Γ fun r => if retB r = true then some (.rt r) else none
def fRetM (i : Nat) : FS := fun Γ => match Γ[i]? with
  | some (.im d) => some (.rt (.im d))
  | some (.own d) => some (.rt (.own d))
  | _ => none
def fRetN : FS := fun _ => some (.rt (.im .non))
def fDrop (f : FE) : FS := fun Γ => toS (f Γ) Γ fun _ => some (.nx Γ)
def fBrk : FS := fun Γ => some (.bk Γ)
def fCnt : FS := fun Γ => some (.ct Γ)
def fSet (i : Nat) (f : FE) : FS := fun Γ => toS (f Γ) Γ fun r => if retB r = true then some (.nx (Γ.set i r)) else none
def fRaise (C : Addr) : FS := fun Γ => some (.xc Γ ⟨.ref C, none⟩)
def fAug (i : Nat) (op : Int → Int → Int) (f : FE) : FS := fun Γ => match Γ[i]? with
  | some (.im (.int a)) => toS ((f Γ).bnd fun r => .ofO (inS r)) Γ fun b => some (.nx (Γ.set i (.im (.int (op a b)))))
  | _ => none
def ownL : Option Sl → Option (List D)
  | some (.own (.lst ds)) => some ds
  | _ => none
theorem ownL_some {r : Option Sl} {ds : List D} (h : ownL r = some ds) : r = some (.own (.lst ds)) := by
  unfold ownL at h
  split at h
  · cases h; rfl
  · cases h
def fApp (i : Nat) (f : FE) : FS := fun Γ => (ownL Γ[i]?).bind fun ds => if ds.length ≤ 1000000 then toS ((f Γ).bnd fun r => .ofO (imS (imm r))) Γ fun d => some (.nx (Γ.set i (.own (.lst (ds ++ [d]))))) else none
def fSetIx (i : Nat) (fi fv : FE) : FS := fun Γ => toS ((fv Γ).bnd fun r => .ofO (imS (imm r))) Γ fun d => (ownL Γ[i]?).bind fun ds => toS ((fi Γ).bnd fun r => .ofO (inS r)) Γ fun k => (ixN ds.length k).bind fun j => some (.nx (Γ.set i (.own (.lst (ds.set j d)))))
def fAsgT (g : FG) (f : FE) : FS := fun Γ => toS ((f Γ).bnd fun r => .ofO (imS (imm r))) Γ fun d => (g d Γ).bind fun Γ' => some (.nx Γ')
def frz1 (Γ : List Sl) (i : Nat) : List Sl := match Γ[i]? with
  | some (.own d) => Γ.set i (.im d)
  | _ => Γ
/-- some lists are not written any more -/
def fFz (is : List Nat) (f : FS) : FS := fun Γ => f (is.foldl frz1 Γ)
/-- some names are not read any more -/
def fWp (vs : List Nat) (f : FS) : FS := fun Γ => f (wipeΓ Γ vs)
def fLoop (tg : FG) (body : FS) (vs : List Nat) : List D → List Sl → Option Ou
  | [], Γ => some (.nx Γ)
  | d :: ds, Γ => (tg d Γ).bind fun Γ1 => match body Γ1 with
    | some (.nx Γ2) => fLoop tg body vs ds (wipeΓ Γ2 vs)
    | some (.ct Γ2) => fLoop tg body vs ds (wipeΓ Γ2 vs)
    | some (.bk Γ2) => some (.nx (wipeΓ Γ2 vs))
    | o => o
def fFor (src : FI) (tg : FG) (body : FS) (vs : List Nat) : FS := fun Γ => toS (src (wipeΓ Γ vs)) (wipeΓ Γ vs) fun ds => fLoop tg body vs ds (wipeΓ Γ vs)
/-! ghosts, on the layer below -/
def dFz (is : List Nat) (f : SS) : SS := fun E s => f E { s with Γ := is.foldl frz1 s.Γ }
def dWp (vs : List Nat) (f : SS) : SS := fun E s => f E { s with Γ := wipeΓ s.Γ vs }
def wpS (vs : List Nat) (f : SS) : SS := fun E s => f { E with nx := fun s => E.nx { s with Γ := wipeΓ s.Γ vs }, ct := fun s => E.ct { s with Γ := wipeΓ s.Γ vs }, bk := fun s => E.bk { s with Γ := wipeΓ s.Γ vs } } s
section
variable {K : PySem.W.Frag} {W : WX} {R : Option Addr} {H0 Hb0 Hb H : Hp} {s : S} {σ : L2.St} {τ : LE}
theorem Env.frz1 {i : Nat} (e : Env K R H0 Hb0 s σ τ Hb H) : ∃ Hb', Env K R H0 Hb0 { s with Γ := DL.frz1 s.Γ i } σ τ Hb' H := by
  unfold DL.frz1
  split
  · rename_i d h
    obtain ⟨a, h1, h2⟩ := e.moved h
    have e1 : Env K R H0 Hb0 { s with Γ := s.Γ.set i .no } σ τ Hb H := e.less
    obtain ⟨Hb', e2, q⟩ := e1.imm (r := .own d) h2
    have hi := (List.getElem?_eq_some_iff.mp h).1
    have e3 := e2.put (i := i) (r := .im d) q (fun d' => by simp) (fun d' => by simp) (by simpa using hi)
    rw [set_self h1] at e3
    have z : (s.Γ.set i Sl.no).set i (.im d) = s.Γ.set i (.im d) := by rw [List.set_set]
    refine ⟨Hb', ?_⟩
    have e4 : Env K R H0 Hb0 { s with Γ := (s.Γ.set i Sl.no).set i (.im d) } σ τ Hb' H := e3
    rw [z] at e4
    exact e4
  · exact ⟨Hb, e⟩
theorem Env.frz : ∀ {is : List Nat} {s : S} {Hb : Hp}, Env K R H0 Hb0 s σ τ Hb H → ∃ Hb', Env K R H0 Hb0 { s with Γ := is.foldl DL.frz1 s.Γ } σ τ Hb' H
  | [], s, Hb, e => ⟨Hb, e⟩
  | i :: is, s, Hb, e => by
    obtain ⟨Hb1, e1⟩ := e.frz1 (i := i)
    exact Env.frz (is := is) e1
theorem Env.wp : ∀ {vs : List Nat} {s : S}, Env K R H0 Hb0 s σ τ Hb H → Env K R H0 Hb0 { s with Γ := wipeΓ s.Γ vs } σ τ Hb H
  | [], s, e => e
  | v :: vs, s, e => (Env.wp (vs := vs) e).less (i := v)
end
section
variable {X : Cx} {W : WX}
theorem ps_fz {st : Stmt} {f : SS} (is : List Nat) (h : PS X st (tS X.K W f)) : PS X st (tS X.K W (dFz is f)) :=
  ⟨fun pins s σ H D I ⟨R, H0, Hb0, s', τ, Hb, E, e, hb, hf, he⟩ => by
    obtain ⟨Hb', e'⟩ := e.frz (is := is)
    exact h.run pins s σ H D I ⟨R, H0, Hb0, _, τ, Hb', E, e', hb, hf, he⟩⟩
theorem ps_wp {st : Stmt} {f : SS} (vs : List Nat) (h : PS X st (tS X.K W f)) : PS X st (tS X.K W (dWp vs f)) :=
  ⟨fun pins s σ H D I ⟨R, H0, Hb0, s', τ, Hb, E, e, hb, hf, he⟩ => h.run pins s σ H D I ⟨R, H0, Hb0, _, τ, Hb, E, e.wp, hb, hf, he⟩⟩
theorem pss_wpS {st : List Stmt} {f : SS} (vs : List Nat) (h : PSs X st (tS X.K W f)) : PSs X st (tS X.K W (wpS vs f)) :=
  ⟨fun pins s σ H D I ⟨R, H0, Hb0, s', τ, Hb, E, e, hb, hf, he⟩ => h.run pins s σ H D I ⟨R, H0, Hb0, s', τ, Hb, _, e, hb, hf,
    ⟨fun s' σ' Hb' H' q e' b' => he.nx _ σ' Hb' H' q e'.wp b', fun s' σ' Hb' H' q e' b' => he.bk _ σ' Hb' H' q e'.wp b', fun s' σ' Hb' H' q e' b' => he.ct _ σ' Hb' H' q e'.wp b', he.rt, he.ex⟩⟩⟩
end
end DL

/-! ## FL4 -/
set_option Elab.async false
set_option linter.all false
set_option autoImplicit false
set_option maxRecDepth 100000
set_option maxHeartbeats 400000
namespace DL
open PySem L2
section
variable {f g h : FE} {E : DE} {s : S} {t : FT} {F G : FS}
theorem ls_next (h : lS fNext E s) : dNext E s := h
theorem ls_seq (h : lS (fSeq F G) E s) : dSeq (lS F) (lS G) E s := by
  unfold lS fSeq at h
  show ouGo { E with nx := lS G E } s (F s.Γ)
  cases q : F s.Γ with
  | none => rw [q] at h; exact h
  | some o => rw [q] at h; cases o <;> exact h
theorem ls_if (h : lS (fIf t F G) E s) : dIfS (lT t) (lS F) (lS G) E s := by
  refine Rs.go_mono (toS_go h) fun b h => ?_
  cases b <;> exact h
theorem ls_ret (h : lS (fRet f) E s) : dRet (lE f) E s := by
  refine Rs.go_mono (toS_go h) fun b h => ?_
  by_cases z : retB b = true
  · rw [if_pos z] at h
    exact ⟨retB_ok z, h⟩
  · rw [if_neg z] at h; exact h.elim
theorem ls_retM {i : Nat} (h : lS (fRetM i) E s) : dRet (dMov i) E s := by
  unfold lS fRetM at h
  unfold dRet dMov
  cases q : s.Γ[i]? with
  | none => rw [q] at h; exact h
  | some t => rw [q] at h; cases t <;> first | exact ⟨trivial, h⟩ | exact h
theorem ls_retN (h : lS fRetN E s) : dRetN E s := h
theorem ls_drop (h : lS (fDrop f) E s) : dDrop (lE f) E s := Rs.go_mono (toS_go h) fun b h => h
theorem ls_brk (h : lS fBrk E s) : dBrk E s := h
theorem ls_cnt (h : lS fCnt E s) : dCnt E s := h
theorem ls_set {i : Nat} (h : lS (fSet i f) E s) : dSet i (lE f) E s := by
  refine Rs.go_mono (toS_go h) fun b h => ?_
  by_cases z : retB b = true
  · rw [if_pos z] at h
    exact ⟨retB_ok z, h⟩
  · rw [if_neg z] at h; exact h.elim
theorem ls_raise {C : Addr} (h : lS (fRaise C) E s) : dRaise C E s := h s.b
theorem ls_aug {i : Nat} {op : Int → Int → Int} (h : lS (fAug i op f) E s) : dAug i op (lE f) E s := by
  unfold lS fAug at h
  split at h
  · rename_i a ha
    refine ⟨a, ha, Rs.go_mono (Rs.go_bnd (toS_go h)) fun b h => ?_⟩
    obtain ⟨c, h1, h2⟩ := Rs.go_ofO h
    exact ⟨c, inS_some h1, h2⟩
  · exact h.elim
theorem ls_app {i : Nat} (h : lS (fApp i f) E s) : dApp i (lE f) E s := by
  unfold lS fApp at h
  cases q : ownL s.Γ[i]? with
  | none => rw [q] at h; exact h.elim
  | some ds =>
    rw [q, Option.bind_some] at h
    by_cases hl : ds.length ≤ 1000000
    · rw [if_pos hl] at h
      refine ⟨ds, ownL_some q, hl, Rs.go_mono (Rs.go_bnd (toS_go h)) fun b h => ?_⟩
      obtain ⟨d, h1, h2⟩ := Rs.go_ofO h
      exact ⟨d, imS_some h1, ownL_some q, h2⟩
    · rw [if_neg hl] at h; exact h.elim
theorem ls_setIx {i : Nat} {fi fv : FE} (h : lS (fSetIx i fi fv) E s) : dSetIx i (lE fi) (lE fv) E s := by
  refine Rs.go_mono (Rs.go_bnd (toS_go h)) fun r h => ?_
  obtain ⟨d, h1, h2⟩ := Rs.go_ofO h
  have h1 := imS_some h1
  cases q : ownL s.Γ[i]? with
  | none => rw [q] at h2; exact h2.elim
  | some ds =>
    rw [q, Option.bind_some] at h2
    refine ⟨⟨_, ownL_some q⟩, ?_⟩
    have hp : pend (imm r) s = s := by rw [h1]; rfl
    rw [hp]
    refine Rs.go_mono (Rs.go_bnd (toS_go h2)) fun ix h2 => ?_
    obtain ⟨k, h3, h4⟩ := Rs.go_ofO h2
    cases z : ixN ds.length k with
    | none => rw [z] at h4; exact h4.elim
    | some j =>
      rw [z, Option.bind_some] at h4
      exact ⟨d, ds, k, j, h1, inS_some h3, ownL_some q, z, h4⟩
theorem ls_asgT {tg : TD} {tg' : FG} (hg : GgF tg tg') (h : lS (fAsgT tg' f) E s) : dAsgT tg (lE f) E s := by
  refine Rs.go_mono (Rs.go_bnd (toS_go h)) fun r h => ?_
  obtain ⟨d, h1, h2⟩ := Rs.go_ofO h
  refine ⟨d, imS_some h1, ?_⟩
  cases q : tg' d s.Γ with
  | none => rw [q] at h2; exact h2.elim
  | some Γ' => rw [q] at h2; exact hg _ _ _ _ q h2
theorem ls_fz {is : List Nat} (h : lS (fFz is F) E s) : dFz is (lS F) E s := h
theorem ls_wp {is : List Nat} (h : lS (fWp is F) E s) : dWp is (lS F) E s := h
theorem loop_F {tg : TD} {tg' : FG} {vs : List Nat} (hg : GgF tg tg') : ∀ (ds : List D) (s : S), ouGo E s (fLoop tg' F vs ds s.Γ) → loopD tg (wpS vs (lS F)) E ds s
  | [], s, h => h
  | d :: ds, s, h => by
    unfold fLoop at h
    cases q : tg' d s.Γ with
    | none => rw [q] at h; exact h.elim
    | some Γ1 =>
      rw [q, Option.bind_some] at h
      refine hg _ _ _ _ q ?_
      show ouGo _ { s with Γ := Γ1 } (F Γ1)
      cases q2 : F Γ1 with
      | none => rw [q2] at h; exact h
      | some o =>
        rw [q2] at h
        cases o with
        | nx Γ2 => exact loop_F hg ds { s with Γ := wipeΓ Γ2 vs } h
        | ct Γ2 => exact loop_F hg ds { s with Γ := wipeΓ Γ2 vs } h
        | bk Γ2 => exact h
        | rt r => exact h
        | xc Γ2 x => exact h
theorem ls_for {src : FI} {tg : TD} {tg' : FG} {vs : List Nat} (hg : GgF tg tg') (hb : s.b = false) (h : lS (fFor src tg' F vs) E s) : dWp vs (dFor (lI src) tg (wpS vs (lS F))) E s := by
  have h : ouGo E { s with Γ := wipeΓ s.Γ vs } (toS (src (wipeΓ s.Γ vs)) (wipeΓ s.Γ vs) fun ds => fLoop tg' F vs ds (wipeΓ s.Γ vs)) := by
    unfold lS fFor at h
    revert h
    generalize (toS (src (wipeΓ s.Γ vs)) (wipeΓ s.Γ vs) fun ds => fLoop tg' F vs ds (wipeΓ s.Γ vs)) = o
    intro h
    cases o with
    | none => exact h
    | some o => cases o <;> exact h
  exact Rs.go_mono (toS_go (s := { s with Γ := wipeΓ s.Γ vs }) h) fun ds h => ⟨hb, loop_F hg ds _ h⟩
end
/-! ### rules -/
section
variable {X : Cx} {W : WX} {x : Str} {pos p : Pos} {a b c e : Expr} {es : List Expr} {f g h : FE} {fs : FA} {j : Nat}
theorem fe_var (i : Nat) (hN : X.N[i]? = some x := by rfl) (hv : Vis X.env.scope x := by first | exact Or.inl rfl | exact Or.inr (Or.inl rfl) | exact Or.inr (Or.inr rfl)) (hd : (x == ("__debug__" : Str)) = false := by decide) (hcd : (x == ("__classdict__" : Str)) = false := by decide) :
    PE X (.Name x pos) (tD X.K W (lE (fVar i))) := (de_var i hN hv hd hcd).leE fun _ _ _ => le_var
theorem fe_int {i : Int} : PE X (.Constant (.int i) j pos) (tD X.K W (lE (fC (.int i)))) := de_int.leE fun _ _ _ => le_c
theorem fe_bl {i : Bool} : PE X (.Constant (.bool i) j pos) (tD X.K W (lE (fC (.bl i)))) := de_bl.leE fun _ _ _ => le_c
theorem fe_non : PE X (.Constant .none j pos) (tD X.K W (lE (fC .non))) := de_non.leE fun _ _ _ => le_c
theorem fe_str {i : Str} : PE X (.Constant (.str i) j pos) (tD X.K W (lE (fC (.str i)))) := de_str.leE fun _ _ _ => le_c
theorem fe_ty {n : String} (hm : X.mg x = none) (hv : bootBuiltins x = some (.type n)) (hg : Gl X x := by rfl) (hn : x ≠ "__name__" := by decide) (hd : (x == ("__debug__" : Str)) = false := by decide) : PE X (.Name x pos) (tD X.K W (lE (fC (.ty n)))) := (de_ty hm hv hg hn hd).leE fun _ _ _ => le_c
theorem fe_glob {v : V} {d : D} (h : ∃ u, X.mg x = some u ∧ RelV v u) (hd : ∀ Hb, Dn X.K Hb v d) (hg : Gl X x := by rfl) (hdb : (x == ("__debug__" : Str)) = false := by decide) : PE X (.Name x pos) (tD X.K W (lE (fC d))) := (de_glob h hd hg hdb).leE fun _ _ _ => le_c
theorem fe_op {o : Operator} {r : R2} {op : Sl → Sl → (Sl → Prop) → Prop} {op' : P2} (ho : OpR X (binaryOp o) r) (hr : OpOk X.K r op ∧ OpF op op') (ha : PE X a (tD X.K W (lE f))) (hb : PE X b (tD X.K W (lE g))) : PE X (.BinOp a o b pos) (tD X.K W (lE (fBin op' f g))) := (de_op ho hr.1 ha hb).leE fun _ _ _ => le_bin hr.2
theorem fe_opK {o : Operator} {r : R2} {op : Sl → Sl → (Sl → Prop) → Prop} {op' : P2} (ho : OpR X (binaryOp o) r) (hr : OpOk X.K r op ∧ OpF op op') (ha : PE X a (tD X.K W (lE f))) (hb : PE X b (tD X.K W (lE g))) : PE X (.BinOp a o b pos) (tD X.K W (lE (fBinK op' f g))) := (de_opK ho hr.1 ha hb).leE fun _ _ _ => le_binK hr.2
theorem fe_cmp {o : CmpOp} {r : R2} {op : Sl → Sl → (Sl → Prop) → Prop} {op' : P2} (ho : OpR X (compareOp o) r) (hr : OpOk X.K r op ∧ OpF op op') (ha : PE X a (tD X.K W (lE f))) (hb : PE X b (tD X.K W (lE g))) (hm : behindInMarks o b = false := by first | exact nomark _ | with_unfolding_all rfl) : PE X (.Compare a [o] [b] pos) (tD X.K W (lE (fBin op' f g))) := (de_cmp ho hr.1 ha hb hm).leE fun _ _ _ => le_bin hr.2
theorem ft_cmp {o : CmpOp} {r : R2} {op : Sl → Sl → (Sl → Prop) → Prop} {op' : P2} (ho : OpR X (compareOp o) r) (hr : OpOk X.K r op ∧ OpF op op') (ha : PE X a (tD X.K W (lE f))) (hb : PE X b (tD X.K W (lE g))) (hm : behindInMarks o b = false := by first | exact nomark _ | with_unfolding_all rfl) : PT X (.Compare a [o] [b] pos) (tT X.K W (lT (fTest (fBin op' f g)))) :=
  (dt_cmp ho hr.1 ha hb hm).leT fun _ _ _ h => le_bin hr.2 (le_test h)
theorem fe_un {o : UnaryOp} {r : V → Hp → VK → Prop} {op : Sl → (Sl → Prop) → Prop} {op' : Sl → Option Sl} (ho : UnR X (unaryOp o) r) (hr : UnOk X.K r op ∧ UnF op op') (ha : PE X a (tD X.K W (lE f))) : PE X (.UnaryOp o a pos) (tD X.K W (lE (fUn op' f))) := (de_un ho hr.1 ha).leE fun _ _ _ => le_un hr.2
theorem fe_ix {r : R2} {op : Sl → Sl → (Sl → Prop) → Prop} {op' : P2} (ho : IxR X r) (hr : OpOk X.K r op ∧ OpF op op') (ha : PE X a (tD X.K W (lE f))) (hb : PE X b (tD X.K W (lE g))) (hs : PlainIx b := by exact fun _ _ => rfl) : PE X (.Subscript a b pos) (tD X.K W (lE (fBin op' f g))) := (de_ix ho hr.1 ha hb hs).leE fun _ _ _ => le_bin hr.2
theorem fe_slc {r : V → Option Int → Option Int → Hp → VK → Prop} {op : Sl → Option Int → Option Int → (Sl → Prop) → Prop} {op' : Sl → Option Int → Option Int → Option Sl} {lo hi : Option Expr} {fl fh : FO} {p2 : Pos} (ho : SlR X r) (hr : SlcOk X.K r op ∧ SlF op op') (ha : PE X a (tD X.K W (lE f))) (hl : PO X lo (tO X.K W (lO fl))) (hh : PO X hi (tO X.K W (lO fh))) :
    PE X (.Subscript a (.Slice lo hi none p2) pos) (tD X.K W (lE (fSl op' f fl fh))) := (de_slc ho hr.1 ha hl hh).leE fun _ _ _ => le_sl hr.2
theorem fo_none : PO X none (tO X.K W (lO fNoP)) := do_none.leO fun _ _ _ => le_noP
theorem fo_some (ha : PE X a (tD X.K W (lE f))) : PO X (some a) (tO X.K W (lO (fPart f))) := (do_some ha).leO fun _ _ _ => le_part
theorem fa_nil : PA X [] (tA X.K W (lA fNil)) := da_nil.leA fun _ _ _ => le_nil
theorem fa_cons (ha : PE X e (tD X.K W (lE f))) (hr : PA X es (tA X.K W (lA fs))) (hs : starEach (e :: es) X.env = (false, eval e X.env) :: starEach es X.env := by rfl) : PA X (e :: es) (tA X.K W (lA (fCons f fs))) := (da_cons ha hr hs).leA fun _ _ _ => le_cons
theorem fe_tup {q : Nat} (h : PE X (.Tuple es q pos) (tTup (tA X.K W (lA fs)))) : PE X (.Tuple es q pos) (tD X.K W (lE (fTup fs))) := (de_tup h).leE fun _ _ _ => le_tup
theorem fe_lst (ha : PE X (.List es pos) (tLst (tA X.K W (lA fs)))) : PE X (.List es pos) (tD X.K W (lE (fLst fs))) := (de_lst ha).leE fun _ _ _ => le_lst
theorem fe_cb {id : String} {r : List V → Hp → VK → Prop} {op : List Sl → (Sl → Prop) → Prop} {op' : List Sl → Option Sl} (hc : CallR X (.builtin id) r) (hr : CbOk X.K r op ∧ CbF op op') (hm : X.mg x = none) (hv : bootBuiltins x = some (.builtin id)) (ha : PA X (e :: es) (tA X.K W (lA fs))) (hg : Gl X x := by rfl) (hn : x ≠ "__name__" := by decide) (hdb : (x == ("__debug__" : Str)) = false := by decide)
    (he : starEach (e :: es) X.env = (false, eval e X.env) :: starEach es X.env := by rfl) (hpl : (backTo pos (starEach es X.env)).any (·.1) = false := by rfl) : PE X (.Call (.Name x p) (e :: es) [] pos) (tD X.K W (lE (fCB op' fs))) := (de_cb hc hr.1 hm hv ha hg hn hdb he hpl).leE fun _ _ _ => le_cb hr.2
theorem fe_cty {T : String} {r : List V → Hp → VK → Prop} {op : List Sl → (Sl → Prop) → Prop} {op' : List Sl → Option Sl} (hc : CallR X (.type T) r) (hr : CbOk X.K r op ∧ CbF op op') (hm : X.mg x = none) (hv : bootBuiltins x = some (.type T)) (ha : PA X (e :: es) (tA X.K W (lA fs))) (hg : Gl X x := by rfl) (hn : x ≠ "__name__" := by decide) (hdb : (x == ("__debug__" : Str)) = false := by decide)
    (he : starEach (e :: es) X.env = (false, eval e X.env) :: starEach es X.env := by rfl) (hpl : (backTo pos (starEach es X.env)).any (·.1) = false := by rfl) : PE X (.Call (.Name x p) (e :: es) [] pos) (tD X.K W (lE (fCB op' fs))) := (de_cty hc hr.1 hm hv ha hg hn hdb he hpl).leE fun _ _ _ => le_cb hr.2
theorem fe_call {k l n : Nat} {F : List D → Rs Sl} (c : FnD X.prog X.w X.K X.mg X.base k x n (gF n F)) (hr : Room l X.A) (tk : Takes X W) (hk : k ≤ l) (ha : PA X (e :: es) (tA X.K W (lA fs))) (hg : Gl X x := by rfl) (hdb : (x == ("__debug__" : Str)) = false := by decide)
    (he : starEach (e :: es) X.env = (false, eval e X.env) :: starEach es X.env := by rfl) (hpl : (backTo pos (starEach es X.env)).any (·.1) = false := by rfl) : PE X (.Call (.Name x p) (e :: es) [] pos) (tD X.K W (lE (fCall n F fs))) := (de_call c hr tk hk ha hg hdb he hpl).leE fun _ _ _ => le_call
theorem fe_andV {rest : List Expr} (ha : PE X a (tD X.K W (lE f))) (hb : PE X (.BoolOp .And (b :: rest) pos) (tD X.K W (lE g))) : PE X (.BoolOp .And (a :: b :: rest) pos) (tD X.K W (lE (fAndV f g))) := (de_andV ha hb).leE fun _ _ _ => le_andV
theorem fe_orV {rest : List Expr} (ha : PE X a (tD X.K W (lE f))) (hb : PE X (.BoolOp .Or (b :: rest) pos) (tD X.K W (lE g))) : PE X (.BoolOp .Or (a :: b :: rest) pos) (tD X.K W (lE (fOrV f g))) := (de_orV ha hb).leE fun _ _ _ => le_orV
theorem fe_notV (ha : PE X a (tD X.K W (lE f))) : PE X (.UnaryOp .Not a pos) (tD X.K W (lE (fNotV f))) := (de_notV ha).leE fun _ _ _ => le_notV
theorem fe_chain {o o' : CmpOp} {r r' : R2} {op op2 : Sl → Sl → (Sl → Prop) → Prop} {op' op2' : P2} (ho : OpR X (compareOp o) r) (ho' : OpR X (compareOp o') r') (hr : OpOk X.K r op ∧ OpF op op') (hr' : OpOk X.K r' op2 ∧ OpF op2 op2') (ha : PE X a (tD X.K W (lE f))) (hb : PE X b (tD X.K W (lE g))) (hc : PE X c (tD X.K W (lE h)))
    (hm : lastMarks [o, o'] [b, c] = false := by with_unfolding_all rfl) : PE X (.Compare a [o, o'] [b, c] pos) (tD X.K W (lE (fChain op' op2' f g h))) := (de_chain ho ho' hr.1 hr'.1 ha hb hc hm).leE fun _ _ _ => le_chain hr.2 hr'.2
theorem ft_chain {o o' : CmpOp} {r r' : R2} {op op2 : Sl → Sl → (Sl → Prop) → Prop} {op' op2' : P2} (ho : OpR X (compareOp o) r) (ho' : OpR X (compareOp o') r') (hr : OpOk X.K r op ∧ OpF op op') (hr' : OpOk X.K r' op2 ∧ OpF op2 op2') (ha : PE X a (tD X.K W (lE f))) (hb : PE X b (tD X.K W (lE g))) (hc : PE X c (tD X.K W (lE h)))
    (hm : lastMarks [o, o'] [b, c] = false := by with_unfolding_all rfl) : PT X (.Compare a [o, o'] [b, c] pos) (tT X.K W (lT (fTest (fChain op' op2' f g h)))) := (dt_chain ho ho' hr.1 hr'.1 ha hb hc hm).leT fun _ _ _ q => le_chain hr.2 hr'.2 (le_test q)
variable {t u : FT}
theorem fe_if (hc : PT X c (tT X.K W (lT t))) (ha : PE X a (tD X.K W (lE f))) (hb : PE X b (tD X.K W (lE g))) : PE X (.IfExp c a b pos) (tD X.K W (lE (fIfE t f g))) := (de_if hc ha hb).leE fun _ _ _ => le_if
theorem ft_val (h : PE X e (tD X.K W (lE f))) (he : ∀ whole, isTrue e X.env whole = (do let v ← whole; standAt e.pos; holding [v] (truthy v)) := by intro _; rfl) : PT X e (tT X.K W (lT (fTest f))) := (dt_val h he).leT fun _ _ _ => le_test
theorem ft_tru (h : PE X e (tD X.K W (lE f))) (he : ∀ whole, isTrue e X.env whole = (do let v ← whole; standAt e.pos; holding [v] (truthy v)) := by intro _; rfl) : PT X e (tT X.K W (lT (fTru f))) := (dt_tru h he).leT fun _ _ _ => le_tru
theorem ft_not (h : PT X a (tT X.K W (lT t))) : PT X (.UnaryOp .Not a pos) (tT X.K W (lT (fNot t))) := (dt_not h).leT fun _ _ _ => le_not
theorem fw_and {rest : List Expr} (ha : PT X a (tT X.K W (lT t))) (hb : PW X (.BoolOp .And (b :: rest) pos) (tT X.K W (lT u))) : PW X (.BoolOp .And (a :: b :: rest) pos) (tT X.K W (lT (fAnd t u))) := (dw_and ha hb).leT fun _ _ _ => le_and
theorem fw_or {rest : List Expr} (ha : PT X a (tT X.K W (lT t))) (hb : PW X (.BoolOp .Or (b :: rest) pos) (tT X.K W (lT u))) : PW X (.BoolOp .Or (a :: b :: rest) pos) (tT X.K W (lT (fOr t u))) := (dw_or ha hb).leT fun _ _ _ => le_or
theorem fts_nil : PTs X [] (tT X.K W (lT fTrue)) := dts_nil.leT fun _ _ _ => le_true
theorem fts_one (h : PT X c (tT X.K W (lT t))) : PTs X [c] (tT X.K W (lT t)) := dts_one h
variable {st : Stmt} {sts : List Stmt} {F G : FS}
theorem fs_nil : PSs X [] (tS X.K W (lS fNext)) := ds_nil.leS fun _ _ _ => ls_next
theorem fs_cons (h1 : PS X st (tS X.K W (lS F))) (h2 : PSs X sts (tS X.K W (lS G))) : PSs X (st :: sts) (tS X.K W (lS (fSeq F G))) := (ds_cons h1 h2).leS fun _ _ _ => ls_seq
theorem fs_one (h1 : PS X st (tS X.K W (lS F))) : PSs X [st] (tS X.K W (lS F)) := ds_one h1
theorem fs_if {s1 s2 : List Stmt} (hc : PT X c (tT X.K W (lT t))) (ha : PSs X s1 (tS X.K W (lS F))) (hb : PSs X s2 (tS X.K W (lS G))) : PS X (.If c s1 s2 pos) (tS X.K W (lS (fIf t F G))) := (ds_if hc ha hb).leS fun _ _ _ => ls_if
theorem fs_ret (h : PE X e (tD X.K W (lE f))) : PS X (.Return (some e) pos) (tS X.K W (lS (fRet f))) := (ds_ret h).leS fun _ _ _ => ls_ret
theorem fs_retM (i : Nat) (hN : X.N[i]? = some x := by rfl) (hv : Vis X.env.scope x := by first | exact Or.inl rfl | exact Or.inr (Or.inl rfl) | exact Or.inr (Or.inr rfl)) (hd : (x == ("__debug__" : Str)) = false := by decide) (hcd : (x == ("__classdict__" : Str)) = false := by decide) : PS X (.Return (some (.Name x p)) pos) (tS X.K W (lS (fRetM i))) := (ds_ret (de_mov i hN hv hd hcd)).leS fun _ _ _ => ls_retM
theorem fs_retN : PS X (.Return none pos) (tS X.K W (lS fRetN)) := ds_retN.leS fun _ _ _ => ls_retN
theorem fs_expr (h : PE X e (tD X.K W (lE f))) (hs : swapsWith e none pos.line X.env = pure false := by rfl) : PS X (.Expr e pos) (tS X.K W (lS (fDrop f))) := (ds_expr h hs).leS fun _ _ _ => ls_drop
theorem fs_pass : PS X (.Pass pos) (tS X.K W (lS fNext)) := ds_pass.leS fun _ _ _ => ls_next
theorem fs_brk : PS X (.Break pos) (tS X.K W (lS fBrk)) := ds_brk.leS fun _ _ _ => ls_brk
theorem fs_cnt : PS X (.Continue pos) (tS X.K W (lS fCnt)) := ds_cnt.leS fun _ _ _ => ls_cnt
theorem fs_set {i : Nat} {pos' : Pos} (hN : X.N.Nodup) (he : PE X e (tD X.K W (lE f))) (hi : X.N[i]? = some x := by rfl) (hx : Loc X.env.scope x := by first | exact .inl rfl | exact .inr rfl) (hs : swapsWith e (some (.Name x pos')) pos.line X.env = pure false := by rfl) (hf : X.fn x = true ∨ X.env.scope.names.lookup x = some .local := by first | exact .inl rfl | exact .inr rfl) :
    PS X (.Assign [.Name x pos'] e pos) (tS X.K W (lS (fSet i f))) := (ds_set hN he hi hx hs hf).leS fun _ _ _ => ls_set
theorem fs_aug {i : Nat} {pos' : Pos} {o : Operator} {op : Int → Int → Int} (ho : PIp X o (ipI op)) (hN : X.N.Nodup) (he : PE X e (tD X.K W (lE f))) (hi : X.N[i]? = some x := by rfl) (hx : Loc X.env.scope x := by first | exact .inl rfl | exact .inr rfl) (hf : X.fn x = true ∨ X.env.scope.names.lookup x = some .local := by first | exact .inl rfl | exact .inr rfl) :
    PS X (.AugAssign (.Name x pos') o e pos) (tS X.K W (lS (fAug i op f))) := (ds_aug ho hN he hi hx hf).leS fun _ _ _ => ls_aug
theorem fs_app {i : Nat} {name : Str} {p1 p2 p3 : Pos} (hnm : name = "append") (he : PE X e (tD X.K W (lE f))) (h : PS X (.Expr (.Call (.Attribute (.Name x p1) name p2) [e] [] p3) pos) (tDrop (tBM X.K "list" rAppend (tVar i) (tCons (tD X.K W (lE f)) tNil)))) :
    PS X (.Expr (.Call (.Attribute (.Name x p1) name p2) [e] [] p3) pos) (tS X.K W (lS (fApp i f))) := (ds_app hnm he h).leS fun _ _ _ => ls_app
theorem fs_setIx {i : Nat} {tg : Expr} (hg : PG X tg (gSub (tVar i) (tD X.K W (lE f)) rSetL)) (hv : PE X e (tD X.K W (lE g))) (hs : swapsWithSole [tg] e pos.line X.env = pure false := by rfl) (hw : swappedStores [tg] e X.env = pure none := by rfl) (h1 : (assignEach [tg] X.env).map (·.2) = [assign tg X.env] := by rfl) :
    PS X (.Assign [tg] e pos) (tS X.K W (lS (fSetIx i f g))) := (ds_setIx hg hv hs hw h1).leS fun _ _ _ => ls_setIx
theorem fs_asgT {tg : Expr} {us : List Nat} {gt : TG} {gd : TD} {gf : FG} (hg : PG X tg gt) (gg : GoodG X.K us gt gd ∧ GgF gd gf) (he : PE X e (tD X.K W (lE f))) (hs : swapsWithSole [tg] e pos.line X.env = pure false := by rfl) (hw : swappedStores [tg] e X.env = pure none := by rfl) (h1 : (assignEach [tg] X.env).map (·.2) = [assign tg X.env] := by rfl) :
    PS X (.Assign [tg] e pos) (tS X.K W (lS (fAsgT gf f))) := (ds_asgT hg gg.1 he hs hw h1).leS fun _ _ _ => ls_asgT gg.2
theorem fs_raise {m : Str} {p2 p3 : Pos} {C : Addr} (c : XcC X.K X.mg x C) (tk : Takes X W) (hc : X.calm = true := by rfl) (hg : Gl X x := by rfl) (hdb : (x == ("__debug__" : Str)) = false := by decide) :
    PS X (.Raise (some (.Call (.Name x p) [.Constant (.str m) j p2] [] p3)) none pos) (tS X.K W (lS (fRaise C))) := (ds_raise c tk hc hg hdb).leS fun _ _ _ => ls_raise
theorem fs_fz (is : List Nat) (h : PS X st (tS X.K W (lS F))) : PS X st (tS X.K W (lS (fFz is F))) := (ps_fz is h).leS fun _ _ _ => ls_fz
theorem fs_wp (is : List Nat) (h : PS X st (tS X.K W (lS F))) : PS X st (tS X.K W (lS (fWp is F))) := (ps_wp is h).leS fun _ _ _ => ls_wp
theorem fs_for {tg iter : Expr} {wi : FI} {us : List Nat} {gt : TG} {gd : TD} {gf : FG} (vs : List Nat) (po : PassesOwn (model X.prog X.w) X.A X.env X.xe) (hi : PI X tg iter (tI X.K W (lI wi))) (hg : PG X tg gt) (gg : GoodG X.K us gt gd ∧ GgF gd gf) (hb : PSs X sts (tS X.K W (lS F))) (hc : X.calm = true := by rfl)
    (hs : ∀ x, foldedSetIterable iter X.env x = pure x := by intro _; rfl) : PS X (.For tg iter sts [] pos) (tS X.K W (lS (fFor wi gf F vs))) := (ps_wp vs (ds_for po hi hg gg.1 (pss_wpS vs hb) hc hs)).leS fun _ _ hb h => ls_for gg.2 hb h
theorem fi_list {tg : Expr} (h : PE X e (tD X.K W (lE f))) : PI X tg e (tI X.K W (lI (fIt f))) := (di_list h).leI fun _ _ _ => le_it
theorem fi_tup {tg : Expr} (h : PE X e (tD X.K W (lE f))) : PI X tg e (tI X.K W (lI (fItT f))) := (di_tup h).leI fun _ _ _ => le_itT
theorem fi_rng1 {tg : Expr} (hm : X.mg "range" = none) (ha : PA X [a] (tA X.K W (lA (fCons f fNil)))) (hg : Gl X "range" := by rfl) (hs : starEach [a] X.env = [(false, eval a X.env)] := by rfl) : PI X tg (.Call (.Name "range" p) [a] [] pos) (tI X.K W (lI (fRng1 f))) := (di_rng1 hm ha hg hs).leI fun _ _ _ => le_rng1
theorem fi_rng2 {tg : Expr} (hm : X.mg "range" = none) (ha : PA X [a, b] (tA X.K W (lA (fCons f (fCons g fNil))))) (hg : Gl X "range" := by rfl) (hs : starEach [a, b] X.env = [(false, eval a X.env), (false, eval b X.env)] := by rfl) (hs2 : starEach [b] X.env = [(false, eval b X.env)] := by rfl) : PI X tg (.Call (.Name "range" p) [a, b] [] pos) (tI X.K W (lI (fRng2 f g))) := (di_rng2 hm ha hg hs hs2).leI fun _ _ _ => le_rng2
theorem fe_lc {elt tg iter : Expr} {ifs : List Expr} {scope : Scope} {pos : Pos} (own : List (Str × Nat)) {wi : FI} {us : List Nat} {gt : TG} {gd : TD} {gf : FG} {t : FT} {f : FE} (hc : X.calm = true) (hN : X.N.Nodup) (hi : PI X tg iter (tI X.K W (lI wi))) (ok : BlkOk X.N X.env.scope scope own)
    (hg : ∀ (s : Shared) (H : Hp) (C : Addr) (cl : List (Str × Addr)) (fp : List Addr), PG (X.blk s H scope (compEnvC scope cl C X.env) fp) tg gt) (gg : GoodG X.K us gt gd ∧ GgF gd gf) (hu : ∀ j ∈ us, j ∈ own.map (·.2))
    (ht : ∀ (s : Shared) (H : Hp) (C : Addr) (cl : List (Str × Addr)) (fp : List Addr), PTs (X.blk s H scope (compEnvC scope cl C X.env) fp) ifs (tT X.K W0 (lT t)))
    (he : ∀ (s : Shared) (H : Hp) (C : Addr) (cl : List (Str × Addr)) (fp : List Addr), PE (X.blk s H scope (compEnvC scope cl C X.env) fp) elt (tD X.K W0 (lE f))) (hs : ∀ x, foldedSetIterable iter X.env x = pure x := by intro _; rfl) :
    PE X (.ListComp elt [⟨tg, iter, ifs, 0⟩] scope pos) (tD X.K W (lE (fLc wi (own.map (·.2)) gf t f))) := (de_lc own hc hN hi ok hg gg.1 hu ht he hs).leE fun _ _ _ => le_lc gg.2
theorem fs_setLc {i : Nat} {y : Str} {py : Pos} {elt tg iter : Expr} {ifs : List Expr} {scope : Scope} {pos spos : Pos} (own : List (Str × Nat)) {wi : FI} {us : List Nat} {gt : TG} {gd : TD} {gf : FG} {t : FT} {f : FE} (hc : X.calm = true) (hN : X.N.Nodup) (hy : X.N[i]? = some y) (hyl : X.env.scope.names.lookup y = some .local)
    (hsw : swapsWith (.ListComp elt [⟨tg, iter, ifs, 0⟩] scope pos) (some (.Name y py)) spos.line X.env = pure true) (hi : PI X tg iter (tI X.K W (lI wi))) (ok : BlkOk X.N X.env.scope scope own)
    (hg : ∀ (s : Shared) (H : Hp) (C : Addr) (cl : List (Str × Addr)) (fp : List Addr), PG (X.blk s H scope (compEnvC scope cl C X.env) fp) tg gt) (gg : GoodG X.K us gt gd ∧ GgF gd gf) (hu : ∀ j ∈ us, j ∈ own.map (·.2))
    (ht : ∀ (s : Shared) (H : Hp) (C : Addr) (cl : List (Str × Addr)) (fp : List Addr), PTs (X.blk s H scope (compEnvC scope cl C X.env) fp) ifs (tT X.K W0 (lT t)))
    (he : ∀ (s : Shared) (H : Hp) (C : Addr) (cl : List (Str × Addr)) (fp : List Addr), PE (X.blk s H scope (compEnvC scope cl C X.env) fp) elt (tD X.K W0 (lE f))) (hs : ∀ x, foldedSetIterable iter X.env x = pure x := by intro _; rfl) :
    PS X (.Assign [.Name y py] (.ListComp elt [⟨tg, iter, ifs, 0⟩] scope pos) spos) (tS X.K W (lS (fSet i (fLc wi (own.map (·.2)) gf t f)))) :=
  (ds_setLc own hc hN hy hyl hsw hi ok hg gg.1 hu ht he hs).leS fun _ _ _ h => le_lc gg.2 (ls_set h)
end
end DL

/-! ## FL5 -/
set_option Elab.async false
set_option linter.all false
set_option autoImplicit false
set_option maxRecDepth 100000
set_option maxHeartbeats 400000
namespace DL
open PySem L2
/-! ### operators as functions -/
def pI (g : Int → Int → D) : P2 := fun x y => (inS x).bind fun i => (inS y).bind fun j => some (.im (g i j))
def pIC (c : Int → Int → Bool) (g : Int → Int → D) : P2 := fun x y => (inS x).bind fun i => (inS y).bind fun j => if c i j = true then some (.im (g i j)) else none
def pEq : P2 := fun x y => (rdD x).bind fun d => (rdD y).bind fun e => if SeqAt.shaped (D.py d) = true ∧ SeqAt.shaped (D.py e) = true then some (.im (.bl (eqD d e))) else none
def pNe : P2 := fun x y => (rdD x).bind fun d => (rdD y).bind fun e => if SeqAt.shaped (D.py d) = true ∧ SeqAt.shaped (D.py e) = true then some (.im (.bl (!eqD d e))) else none
def dLs : D → Option (List D)
  | .lst ds => some ds
  | _ => none
def pIn : P2 := fun x y => (rdD x).bind fun d => ((rdD y).bind dLs).bind fun ds => if SeqAt.shaped (D.py d) = true ∧ SeqAt.shaped (D.py (.lst ds)) = true then some (.im (.bl (ds.any fun z => eqD z d))) else none
def pNotIn : P2 := fun x y => (rdD x).bind fun d => ((rdD y).bind dLs).bind fun ds => if SeqAt.shaped (D.py d) = true ∧ SeqAt.shaped (D.py (.lst ds)) = true then some (.im (.bl (!ds.any fun z => eqD z d))) else none
def scS : Sl → Option V
  | .im d => scD d
  | _ => none
def pEqS : P2 := fun x y => (scS x).bind fun u => (scS y).bind fun w => if scal u w = true then some (.im (.bl (decide (u = w)))) else none
def pNeS : P2 := fun x y => (scS x).bind fun u => (scS y).bind fun w => if scal u w = true then some (.im (.bl (!decide (u = w)))) else none
def stS : Sl → Option Str
  | .im (.str z) => some z
  | _ => none
def pCatT : P2 := fun x y => (tuS x).bind fun ds => (tuS y).bind fun es => if ds.length + es.length ≤ 1000000 then some (.im (.tup (ds ++ es))) else none
def pCatS : P2 := fun x y => (stS x).bind fun ds => (stS y).bind fun es => if ds.length + es.length ≤ 1000000 then some (.im (.str (ds ++ es))) else none
def pCatH : P2 := fun x y => (lstH x).bind fun ds => (lstH y).bind fun es => if ds.length + es.length ≤ 1000000 then some (.own (.lst (ds ++ es))) else none
def pIxT : P2 := fun x y => (tuS x).bind fun ds => (inS y).bind fun i => (atI ds i).bind fun d => some (.im d)
def pIxL : P2 := fun x y => ((rdD x).bind dLs).bind fun ds => (inS y).bind fun i => (atI ds i).bind fun d => some (.im d)
def pIxS : P2 := fun x y => (stS x).bind fun z => (inS y).bind fun i => if z.length ≤ 1000000 then (atI z.cps.toList i).bind fun c => some (.im (.str ⟨#[c]⟩)) else none
def pSlT : Sl → Option Int → Option Int → Option Sl := fun x lo hi => (tuS x).bind fun ds => some (.im (.tup (cutD ds lo hi)))
def pSlL : Sl → Option Int → Option Int → Option Sl := fun x lo hi => ((rdD x).bind dLs).bind fun ds => some (.own (.lst (cutD ds lo hi)))
def pLen : List Sl → Option Sl := fun as => match as with | [x] => ((rdD x).bind lenA).bind fun n => some (.im (.int n)) | _ => none
def pSum : List Sl → Option Sl := fun as => match as with | [x] => (((rdD x).bind dLs).bind intsD).bind fun ns => some (.im (.int ns.sum)) | _ => none
def pAny : List Sl → Option Sl := fun as => match as with | [x] => (((rdD x).bind dLs).bind boolsD).bind fun ns => some (.im (.bl (ns.any id))) | _ => none
def pAll : List Sl → Option Sl := fun as => match as with | [x] => (((rdD x).bind dLs).bind boolsD).bind fun ns => some (.im (.bl (ns.all id))) | _ => none
def seqS : Sl → Option (List D)
  | .im (.tup ds) => some ds
  | x => (rdD x).bind dLs
def pTuple : List Sl → Option Sl := fun as => match as with | [x] => (seqS x).bind fun ds => some (.im (.tup ds)) | _ => none
def pList : List Sl → Option Sl := fun as => match as with | [x] => (seqS x).bind fun ds => some (.own (.lst ds)) | _ => none
def pInt1 : List Sl → Option Sl := fun as => match as with | [x] => (inS x).bind fun i => some (.im (.int i)) | _ => none
def pAbs : List Sl → Option Sl := fun as => match as with | [x] => (inS x).bind fun i => some (.im (.int (if i < 0 then -i else i))) | _ => none
def tyS : Sl → Option String
  | .im (.ty n) => some n
  | _ => none
def pIsi : List Sl → Option Sl := fun as => match as with | [x, y] => (tyS y).bind fun n => ((rdD x).bind tyD).bind fun m => (kitB m n).bind fun b => some (.im (.bl b)) | _ => none
def pNeg : Sl → Option Sl := fun x => (inS x).bind fun i => some (.im (.int (-i)))
def cMul (i j : Int) : Bool := (decide (-(2 ^ 64) < i) && decide (i < 2 ^ 64)) || (decide (-(2 ^ 64) < j) && decide (j < 2 ^ 64))
def cDiv (_ j : Int) : Bool := decide (0 < j) && decide (j < 1073741824)
def cMod (_ j : Int) : Bool := decide (0 < j)
theorem tyS_some {r : Sl} {b : String} (h : tyS r = some b) : r = .im (.ty b) := by
  unfold tyS at h
  split at h
  · cases h; rfl
  · cases h
theorem stS_some {r : Sl} {b : Str} (h : stS r = some b) : r = .im (.str b) := by
  unfold stS at h
  split at h
  · cases h; rfl
  · cases h
theorem scS_some {r : Sl} {u : V} (h : scS r = some u) : ∃ d, r = .im d ∧ scD d = some u := by
  unfold scS at h
  split at h
  · exact ⟨_, rfl, h⟩
  · cases h
theorem dLs_some {x : Sl} {ds : List D} (h : (rdD x).bind dLs = some ds) : rdD x = some (.lst ds) := by
  obtain ⟨d, h1, h2⟩ := Option.bind_eq_some_iff.mp h
  rw [h1]
  unfold dLs at h2
  split at h2
  · cases h2; rfl
  · cases h2
theorem bnd2 {α β γ : Type} {x : Option α} {y : Option β} {f : α → β → Option γ} {r : γ} (h : (x.bind fun a => y.bind fun b => f a b) = some r) : ∃ a b, x = some a ∧ y = some b ∧ f a b = some r := by
  obtain ⟨a, h1, h2⟩ := Option.bind_eq_some_iff.mp h
  obtain ⟨b, h3, h4⟩ := Option.bind_eq_some_iff.mp h2
  exact ⟨a, b, h1, h3, h4⟩
theorem ifS {α : Type} {p : Prop} [Decidable p] {x r : α} (h : (if p then some x else none) = some r) : p ∧ x = r := by
  split at h
  · rename_i q
    cases h; exact ⟨q, rfl⟩
  · cases h
section
variable {K : PySem.W.Frag}
theorem of_I {g : Int → Int → D} : OpF (oI g) (pI g) := fun x y r k h q => by
  obtain ⟨i, j, h1, h2, h3⟩ := bnd2 h
  cases h3
  exact ⟨i, j, inS_some h1, inS_some h2, q⟩
theorem of_IC {C : Int → Int → Prop} {c : Int → Int → Bool} {g : Int → Int → D} (hc : ∀ i j, c i j = true → C i j) : OpF (oIC C g) (pIC c g) := fun x y r k h q => by
  obtain ⟨i, j, h1, h2, h3⟩ := bnd2 h
  obtain ⟨h4, h5⟩ := ifS h3
  subst h5
  exact ⟨i, j, inS_some h1, inS_some h2, hc _ _ h4, q⟩
abbrev pAdd := pI fun i j => .int (i + j)
abbrev pSub := pI fun i j => .int (i - j)
abbrev pLt := pI fun i j => .bl (decide (i < j))
abbrev pLe := pI fun i j => .bl (decide (i ≤ j))
abbrev pGt := pI fun i j => .bl (decide (j < i))
abbrev pGe := pI fun i j => .bl (decide (j ≤ i))
abbrev pMul := pIC cMul fun i j => .int (i * j)
abbrev pMod := pIC cMod fun i j => .int (i % j)
abbrev pFdiv := pIC cDiv fun i j => .int (i / j)
theorem kf_add : OpOk K (rI0 fun i j => .int (i + j)) oAdd ∧ OpF oAdd pAdd := ⟨ok_add, of_I⟩
theorem kf_sub : OpOk K (rI0 fun i j => .int (i - j)) oSub ∧ OpF oSub pSub := ⟨ok_sub, of_I⟩
theorem kf_lt : OpOk K (rI0 fun i j => .bl (decide (i < j))) oLt ∧ OpF oLt pLt := ⟨ok_lt, of_I⟩
theorem kf_le : OpOk K (rI0 fun i j => .bl (decide (i ≤ j))) oLe ∧ OpF oLe pLe := ⟨ok_le, of_I⟩
theorem kf_gt : OpOk K (rI0 fun i j => .bl (decide (j < i))) oGt ∧ OpF oGt pGt := ⟨ok_gt, of_I⟩
theorem kf_ge : OpOk K (rI0 fun i j => .bl (decide (j ≤ i))) oGe ∧ OpF oGe pGe := ⟨ok_ge, of_I⟩
theorem kf_mul : OpOk K (rI CMul fun i j => .int (i * j)) oMul ∧ OpF oMul pMul := ⟨ok_mul, of_IC fun i j h => by
  unfold cMul at h
  simp only [Bool.or_eq_true, Bool.and_eq_true, decide_eq_true_eq] at h
  exact h⟩
theorem kf_mod : OpOk K (rI (fun _ j => 0 < j) fun i j => .int (i % j)) oMod ∧ OpF oMod pMod := ⟨ok_mod, of_IC fun i j h => of_decide_eq_true h⟩
theorem kf_fdiv : OpOk K (rI CDiv fun i j => .int (i / j)) oFdiv ∧ OpF oFdiv pFdiv := ⟨ok_fdiv, of_IC fun i j h => by
  unfold cDiv at h
  simp only [Bool.and_eq_true, decide_eq_true_eq] at h
  exact h⟩
def cPow (i j : Int) : Bool := decide (0 ≤ j) && (decide (j ≤ 1000000) && decide (i.natAbs < 2 ^ 64))
abbrev pPow := pIC cPow fun i j => .int (i ^ j.toNat)
theorem kf_pow : OpOk K (rI CPow fun i j => .int (i ^ j.toNat)) oPow ∧ OpF oPow pPow := ⟨ok_pow, of_IC fun i j h => by
  unfold cPow at h
  simp only [Bool.and_eq_true, decide_eq_true_eq] at h
  exact h⟩
theorem kf_eq : OpOk K (rEqD K) oEq ∧ OpF oEq pEq := ⟨ok_eq, fun x y r k h q => by
  obtain ⟨d, e, h1, h2, h3⟩ := bnd2 h
  obtain ⟨h4, h5⟩ := ifS h3
  subst h5
  exact ⟨d, e, h1, h2, h4.1, h4.2, q⟩⟩
theorem kf_ne : OpOk K (rNeD K) oNe ∧ OpF oNe pNe := ⟨ok_ne, fun x y r k h q => by
  obtain ⟨d, e, h1, h2, h3⟩ := bnd2 h
  obtain ⟨h4, h5⟩ := ifS h3
  subst h5
  exact ⟨d, e, h1, h2, h4.1, h4.2, q⟩⟩
theorem kf_in : OpOk K (rInD K) oIn ∧ OpF oIn pIn := ⟨ok_in, fun x y r k h q => by
  obtain ⟨d, e, h1, h2, h3⟩ := bnd2 h
  obtain ⟨h4, h5⟩ := ifS h3
  subst h5
  exact ⟨d, e, h1, dLs_some h2, h4.1, h4.2, q⟩⟩
theorem kf_notIn : OpOk K (rNotInD K) oNotIn ∧ OpF oNotIn pNotIn := ⟨ok_notIn, fun x y r k h q => by
  obtain ⟨d, e, h1, h2, h3⟩ := bnd2 h
  obtain ⟨h4, h5⟩ := ifS h3
  subst h5
  exact ⟨d, e, h1, dLs_some h2, h4.1, h4.2, q⟩⟩
theorem kf_eqS : OpOk K rEq oEqS ∧ OpF oEqS pEqS := ⟨ok_eqS, fun x y r k h q => by
  obtain ⟨d, e, h1, h2, h3⟩ := bnd2 h
  obtain ⟨h4, h5⟩ := ifS h3
  subst h5
  obtain ⟨d', e1, e2⟩ := scS_some h1
  obtain ⟨d2, e3, e4⟩ := scS_some h2
  exact ⟨d', d2, d, e, e1, e3, e2, e4, h4, q⟩⟩
theorem kf_neS : OpOk K rNe oNeS ∧ OpF oNeS pNeS := ⟨ok_neS, fun x y r k h q => by
  obtain ⟨d, e, h1, h2, h3⟩ := bnd2 h
  obtain ⟨h4, h5⟩ := ifS h3
  subst h5
  obtain ⟨d', e1, e2⟩ := scS_some h1
  obtain ⟨d2, e3, e4⟩ := scS_some h2
  exact ⟨d', d2, d, e, e1, e3, e2, e4, h4, q⟩⟩
theorem kf_catT : OpOk K (rCatA K) oCatT ∧ OpF oCatT pCatT := ⟨ok_catT, fun x y r k h q => by
  obtain ⟨d, e, h1, h2, h3⟩ := bnd2 h
  obtain ⟨h4, h5⟩ := ifS h3
  subst h5
  exact ⟨d, e, tuS_some h1, tuS_some h2, h4, q⟩⟩
theorem kf_catS : OpOk K (fun x y H Q => ∃ i j, x = .str i ∧ y = .str j ∧ i.length + j.length ≤ sizeLine ∧ Q (.str (i ++ j)) H) oCatS ∧ OpF oCatS pCatS := ⟨ok_catS, fun x y r k h q => by
  obtain ⟨d, e, h1, h2, h3⟩ := bnd2 h
  obtain ⟨h4, h5⟩ := ifS h3
  subst h5
  exact ⟨d, e, stS_some h1, stS_some h2, h4, q⟩⟩
theorem kf_catH : OpOk K rCat oCatH ∧ OpF oCatH pCatH := ⟨ok_catH, fun x y r k h q => by
  obtain ⟨d, e, h1, h2, h3⟩ := bnd2 h
  obtain ⟨h4, h5⟩ := ifS h3
  subst h5
  exact ⟨d, e, h1, h2, h4, q⟩⟩
theorem kf_ixT : OpOk K (rIxT K) oIxT ∧ OpF oIxT pIxT := ⟨ok_ixT, fun x y r k h q => by
  obtain ⟨d, e, h1, h2, h3⟩ := bnd2 h
  obtain ⟨z, h4, h5⟩ := Option.bind_eq_some_iff.mp h3
  cases h5
  exact ⟨d, e, z, tuS_some h1, inS_some h2, h4, q⟩⟩
theorem kf_ixL : OpOk K (rIxL K) oIxL ∧ OpF oIxL pIxL := ⟨ok_ixL, fun x y r k h q => by
  obtain ⟨d, e, h1, h2, h3⟩ := bnd2 h
  obtain ⟨z, h4, h5⟩ := Option.bind_eq_some_iff.mp h3
  cases h5
  exact ⟨d, e, z, dLs_some h1, inS_some h2, h4, q⟩⟩
theorem kf_ixS : OpOk K rIxS oIxS ∧ OpF oIxS pIxS := ⟨ok_ixS, fun x y r k h q => by
  obtain ⟨d, e, h1, h2, h3⟩ := bnd2 h
  split at h3
  · rename_i hl
    obtain ⟨z, h4, h5⟩ := Option.bind_eq_some_iff.mp h3
    cases h5
    exact ⟨d, e, z, stS_some h1, inS_some h2, hl, h4, q⟩
  · cases h3⟩
theorem kf_slT : SlcOk K (rSlA K) oSlT ∧ SlF oSlT pSlT := ⟨ok_slT, fun x lo hi r k h q => by
  obtain ⟨d, h1, h2⟩ := Option.bind_eq_some_iff.mp h
  cases h2
  exact ⟨d, tuS_some h1, q⟩⟩
theorem kf_slL : SlcOk K (rSlL K) oSlL ∧ SlF oSlL pSlL := ⟨ok_slL, fun x lo hi r k h q => by
  obtain ⟨d, h1, h2⟩ := Option.bind_eq_some_iff.mp h
  cases h2
  exact ⟨d, dLs_some h1, q⟩⟩
theorem one_inv {α : Type} {f : Sl → Option α} {as : List Sl} {r : α} (h : (match as with | [x] => f x | _ => none) = some r) : ∃ x, as = [x] ∧ f x = some r := by
  match as, h with
  | [x], h => exact ⟨x, rfl, h⟩
  | [], h => cases h
  | _ :: _ :: _, h => cases h
theorem kf_len : CbOk K (fun xs H Q => ∃ x n, xs = [x] ∧ LenV K x H n ∧ Q (.int n) H) oLenA ∧ CbF oLenA pLen := ⟨ok_lenA, fun as r k h q => by
  obtain ⟨x, rfl, h⟩ := one_inv h
  obtain ⟨n, h1, h2⟩ := Option.bind_eq_some_iff.mp h
  obtain ⟨d, h3, h4⟩ := Option.bind_eq_some_iff.mp h1
  cases h2
  exact ⟨x, d, n, rfl, h3, h4, q⟩⟩
theorem kf_sum : CbOk K (rSum K) oSum ∧ CbF oSum pSum := ⟨ok_sum, fun as r k h q => by
  obtain ⟨x, rfl, h⟩ := one_inv h
  obtain ⟨n, h1, h2⟩ := Option.bind_eq_some_iff.mp h
  obtain ⟨d, h3, h4⟩ := Option.bind_eq_some_iff.mp h1
  cases h2
  exact ⟨x, d, n, rfl, dLs_some h3, h4, q⟩⟩
theorem kf_any : CbOk K (rAny K) oAny ∧ CbF oAny pAny := ⟨ok_any, fun as r k h q => by
  obtain ⟨x, rfl, h⟩ := one_inv h
  obtain ⟨n, h1, h2⟩ := Option.bind_eq_some_iff.mp h
  obtain ⟨d, h3, h4⟩ := Option.bind_eq_some_iff.mp h1
  cases h2
  exact ⟨x, d, n, rfl, dLs_some h3, h4, q⟩⟩
theorem kf_all : CbOk K (rAll K) oAll ∧ CbF oAll pAll := ⟨ok_all, fun as r k h q => by
  obtain ⟨x, rfl, h⟩ := one_inv h
  obtain ⟨n, h1, h2⟩ := Option.bind_eq_some_iff.mp h
  obtain ⟨d, h3, h4⟩ := Option.bind_eq_some_iff.mp h1
  cases h2
  exact ⟨x, d, n, rfl, dLs_some h3, h4, q⟩⟩
theorem seqS_some {x : Sl} {ds : List D} (h : seqS x = some ds) : rdD x = some (.lst ds) ∨ x = .im (.tup ds) := by
  unfold seqS at h
  split at h
  · cases h; exact .inr rfl
  · exact .inl (dLs_some h)
theorem kf_tuple : CbOk K (fun xs H Q => ∃ p ys, xs = [.ref p] ∧ ((SqL K H p ys ∧ ∀ l, H l = none → Q (.ref l) (upd H l (.tup ys))) ∨ (SqT K H p ys ∧ Q (.ref p) H))) oTuple ∧ CbF oTuple pTuple := ⟨ok_tuple, fun as r k h q => by
  obtain ⟨x, rfl, h⟩ := one_inv h
  obtain ⟨n, h1, h2⟩ := Option.bind_eq_some_iff.mp h
  cases h2
  exact ⟨x, n, rfl, seqS_some h1, q⟩⟩
theorem kf_list : CbOk K (fun xs H Q => ∃ p ys, xs = [.ref p] ∧ (SqL K H p ys ∨ SqT K H p ys) ∧ ∀ l, H l = none → Q (.ref l) (upd H l (.lst ys))) oList ∧ CbF oList pList := ⟨ok_list, fun as r k h q => by
  obtain ⟨x, rfl, h⟩ := one_inv h
  obtain ⟨n, h1, h2⟩ := Option.bind_eq_some_iff.mp h
  cases h2
  exact ⟨x, n, rfl, seqS_some h1, q⟩⟩
theorem kf_int1 : CbOk K (fun xs H Q => (∃ i, xs = [.int i] ∧ Q (.int i) H) ∨ ∃ k, xs = [.bl k] ∧ Q (.int (if k then 1 else 0)) H) oInt1 ∧ CbF oInt1 pInt1 := ⟨ok_int1, fun as r k h q => by
  obtain ⟨x, rfl, h⟩ := one_inv h
  obtain ⟨n, h1, h2⟩ := Option.bind_eq_some_iff.mp h
  cases h2
  exact ⟨n, by rw [inS_some h1], q⟩⟩
theorem kf_abs : CbOk K (fun xs H Q => ∃ i : Int, xs = [.int i] ∧ Q (.int (if i < 0 then -i else i)) H) oAbs ∧ CbF oAbs pAbs := ⟨ok_abs, fun as r k h q => by
  obtain ⟨x, rfl, h⟩ := one_inv h
  obtain ⟨n, h1, h2⟩ := Option.bind_eq_some_iff.mp h
  cases h2
  exact ⟨n, by rw [inS_some h1], q⟩⟩
theorem kf_isi : CbOk K (rIsi K) oIsi ∧ CbF oIsi pIsi := ⟨ok_isi, fun as r k h q => by
  match as, h with
  | [x, y], h =>
    obtain ⟨n, h1, h⟩ := Option.bind_eq_some_iff.mp h
    obtain ⟨m, h2, h⟩ := Option.bind_eq_some_iff.mp h
    obtain ⟨b, h3, h⟩ := Option.bind_eq_some_iff.mp h
    obtain ⟨d, h4, h5⟩ := Option.bind_eq_some_iff.mp h2
    cases h
    exact ⟨x, n, d, m, b, by rw [tyS_some h1], h4, h5, h3, q⟩
  | [], h => cases h
  | [_], h => cases h
  | _ :: _ :: _ :: _, h => cases h⟩
theorem kf_neg : UnOk K (rU fun i => .int (-i)) oNeg ∧ UnF oNeg pNeg := ⟨ok_neg, fun x r k h q => by
  obtain ⟨i, h1, h2⟩ := Option.bind_eq_some_iff.mp h
  cases h2
  exact ⟨i, inS_some h1, q⟩⟩
theorem kg_N (i : Nat) : GoodG K [i] (gName i) (gN i) ∧ GgF (gN i) (hN i) := ⟨good_gN i, gg_N⟩
theorem kg_T2 {us vs : List Nat} {g1 g2 : TG} {f1 f2 : TD} {h1 h2 : FG} (a : GoodG K us g1 f1 ∧ GgF f1 h1) (b : GoodG K vs g2 f2 ∧ GgF f2 h2) : GoodG K (us ++ vs) (gTup K 2 (gCons g1 (gCons g2 gNil))) (gT2 f1 f2) ∧ GgF (gT2 f1 f2) (hT2 h1 h2) := ⟨good_gT2 a.1 b.1, gg_T2 a.2 b.2⟩
theorem kg_T3 {us vs ws : List Nat} {g1 g2 g3 : TG} {f1 f2 f3 : TD} {h1 h2 h3 : FG} (a : GoodG K us g1 f1 ∧ GgF f1 h1) (b : GoodG K vs g2 f2 ∧ GgF f2 h2) (c : GoodG K ws g3 f3 ∧ GgF f3 h3) : GoodG K (us ++ (vs ++ ws)) (gTup K 3 (gCons g1 (gCons g2 (gCons g3 gNil)))) (gT3 f1 f2 f3) ∧ GgF (gT3 f1 f2 f3) (hT3 h1 h2 h3) := ⟨good_gT3 a.1 b.1 c.1, gg_T3 a.2 b.2 c.2⟩
end
/-! ### a def -/
def finF (f : FS) (m : Nat) (ds : List D) : Rs Sl := match f (ds.map Sl.im ++ List.replicate (m - ds.length) .no) with
  | some (.rt r) => .ok r
  | some (.nx _) => .ok (.im .non)
  | some (.xc _ x) => .ex x
  | _ => .bad
theorem ims_map : ∀ {as : List Sl} {ds : List D}, ims as = some ds → as = ds.map Sl.im
  | [], ds, h => by cases h; rfl
  | a :: as, ds, h => by
    cases a <;> simp only [ims, Option.map_eq_some_iff, reduceCtorEq] at h
    obtain ⟨es, h1, rfl⟩ := h
    rw [ims_map h1]; rfl
theorem fn_F {P : Program} {w : World} {K : PySem.W.Frag} {mg : Str → Option Value} {base : Heap} {x qual : Str} {st : Stmt} {f : Addr} {fd : FuncData} {N ps : List Str} {k n m : Nat} {body : FS} (F : Fun K x qual st f fd) (S : FnScope N ps (defScope st)) (hn : ps.length = n) (hm : N.length = m)
    (hb : ∀ (cdv : Value) (A : Around) (outer : List PySem.Env) (s : Shared) (H : Hp) (E : XK), Room k (cxOf (L2.CX P w) P w K mg base N qual (defScope st) f cdv A outer s H E).A →
      Takes (cxOf (L2.CX P w) P w K mg base N qual (defScope st) f cdv A outer s H E) (WF E) → PassesOwn (model P w) (cxOf (L2.CX P w) P w K mg base N qual (defScope st) f cdv A outer s H E).A (cxOf (L2.CX P w) P w K mg base N qual (defScope st) f cdv A outer s H E).env (cxOf (L2.CX P w) P w K mg base N qual (defScope st) f cdv A outer s H E).xe →
      PSs (cxOf (L2.CX P w) P w K mg base N qual (defScope st) f cdv A outer s H E) (defBody st) (tS K (WF E) (lS body))) : FnOk P w K mg base (L2.CX P w) (k + 1) f fd ps (spD K n (gF n (finF body m))) := by
  subst hm
  refine fn_D F S hn hb fun c as k kx hl hg => ?_
  obtain ⟨ds, h1, h2, h3⟩ := hg
  have h4 := ims_map h1
  have hΓ : startΓ n N.length as = ds.map Sl.im ++ List.replicate (N.length - ds.length) .no := by unfold startΓ; rw [h4, h2]
  show ouGo (endsF k kx) _ (body (startΓ n N.length as))
  rw [hΓ]
  unfold finF at h3
  revert h3
  generalize body (ds.map Sl.im ++ List.replicate (N.length - ds.length) .no) = o
  intro h3
  cases o with
  | none => exact h3.elim
  | some o =>
    cases o with
    | nx Γ => exact h3
    | rt r => exact h3
    | bk Γ => exact h3.elim
    | ct Γ => exact h3.elim
    | xc Γ x => exact fun _ => h3
end DL

/-! ## LAW -/
set_option Elab.async false
set_option linter.all false
set_option autoImplicit false
set_option maxRecDepth 100000
set_option maxHeartbeats 400000
namespace DL
open PySem L2
/-! ### a law: state = _law_start(script); .. -/
def gStart : SF := fun c as k _ => ∃ ns : List Int, as = [.im (.lst (ns.map D.int))] ∧ ns.length ≤ 63 ∧ ∀ (row : List Int) (sd : Int), row.length ≤ 4000 → (∀ n ∈ row, 0 ≤ n ∧ n < 840) → 0 ≤ sd → sd < 2147483647 → k c (.own (.lst [.lst (row.map D.int), .int 0, .int sd]))
def spLaw (K : PySem.W.Frag) : Sp := fun vs H Q _ => ∃ (a : Addr) (ns : List Int), vs = [.ref a] ∧ SqL K H a (ns.map V.int) ∧ ns.length ≤ 63 ∧ ∀ H', Q (.bl true) H'
theorem dn_ints {K : PySem.W.Frag} {H : Hp} : ∀ ns : List Int, DnL K H (ns.map V.int) (ns.map D.int)
  | [] => .nil
  | n :: ns => .cons (Dn.int n) (dn_ints ns)
theorem dn_ints' {K : PySem.W.Frag} {H : Hp} : ∀ {ns : List Int} {vs : List V}, DnL K H vs (ns.map D.int) → vs = ns.map V.int
  | [], vs, h => h.inv0
  | n :: ns, vs, h => by
    obtain ⟨v, r, rfl, h1, h2⟩ := h.inv
    rw [h1.int', dn_ints' h2]; rfl
def kTrue : Nat → Sl → Prop := fun _ r => r = .im (.bl true)
def kNone : Nat → XD → Prop := fun _ _ => False
theorem fn_law {P : Program} {w : World} {K : PySem.W.Frag} {mg : Str → Option Value} {base : Heap} {x qual : Str} {st st0 : Stmt} {sts : List Stmt} {f : Addr} {fd : FuncData} {N : List Str} {k m : Nat} {rest : SS} (F : Fun K x qual st f fd) (S : FnScope N ["script"] (defScope st)) (hN : N.length = m + 2) (hbd : defBody st = st0 :: sts)
    (hb : ∀ (cdv : Value) (A : Around) (outer : List PySem.Env) (s : Shared) (H : Hp) (E : XK), Room k (cxOf (L2.CX P w) P w K mg base N qual (defScope st) f cdv A outer s H E).A →
      Takes (cxOf (L2.CX P w) P w K mg base N qual (defScope st) f cdv A outer s H E) (WF E) → PassesOwn (model P w) (cxOf (L2.CX P w) P w K mg base N qual (defScope st) f cdv A outer s H E).A (cxOf (L2.CX P w) P w K mg base N qual (defScope st) f cdv A outer s H E).env (cxOf (L2.CX P w) P w K mg base N qual (defScope st) f cdv A outer s H E).xe →
      PS (cxOf (L2.CX P w) P w K mg base N qual (defScope st) f cdv A outer s H E) st0 (tS K (WF E) (dSet 1 (dCall 1 gStart (dCons (dVar 0) dNil)))) ∧ PSs (cxOf (L2.CX P w) P w K mg base N qual (defScope st) f cdv A outer s H E) sts (tS K (WF E) rest))
    (hG : ∀ d : D, rest (endsF kTrue kNone) ⟨0, .im d :: .rng :: List.replicate m .no, false⟩) : FnOk P w K mg base (L2.CX P w) (k + 1) f fd ["script"] (spLaw K) := by
  refine F.okX S (fun vs H Q E ⟨a, ns, h, _⟩ => by rw [h]; rfl) (fun cdv A outer s H vs Q E hr ⟨a, ns, hv, hS, hl, hQ⟩ => ?_)
  subst hv
  have hh := hb cdv A outer s H E hr (takes_of rfl rfl rfl rfl) (passes_of rfl)
  refine ⟨_, by rw [hbd]; exact pss_cons hh.1 hh.2, ?_⟩
  have hst : L2.start N [V.ref a] = some (.ref a) :: none :: List.replicate m none := by
    unfold L2.start
    rw [hN]
    rfl
  refine ⟨none, H, H, ⟨0, .im (.lst (ns.map D.int)) :: List.replicate (m + 1) .no, false⟩, [], H, { nx := fun s' => ∃ (row : List Int) (sd : Int), row.length ≤ 4000 ∧ (∀ n ∈ row, 0 ≤ n ∧ n < 840) ∧ 0 ≤ sd ∧ sd < 2147483647 ∧ s' = ⟨0, .im (.lst (ns.map D.int)) :: .own (.lst [.lst (row.map D.int), .int 0, .int sd]) :: List.replicate m .no, false⟩, rt := fun _ _ => False, bk := fun _ => False, ct := fun _ => False, ex := fun _ _ => False }, ?_, rfl, ?_, ?_⟩
  · refine ⟨?_, ?_, fun _ t ht => by simp at ht, ?_⟩
    · show (Sl.im (.lst (ns.map D.int)) :: List.replicate (m + 1) Sl.no).length = (L2.start N [V.ref a]).length
      rw [hst]; simp
    · intro t ht d
      rcases List.mem_cons.mp ht with h | h
      · rw [h]; simp
      · rw [List.eq_of_mem_replicate h]; simp
    · show EnvL K none H H 0 ((Sl.im (.lst (ns.map D.int)) :: List.replicate (m + 1) Sl.no).zip (L2.start N [V.ref a]) ++ []) H H
      rw [List.append_nil, hst]
      have key : ∀ (i : Nat) (t : Sl × Option V), ((Sl.im (.lst (ns.map D.int)) :: List.replicate (m + 1) Sl.no).zip (some (V.ref a) :: none :: List.replicate m none))[i]? = some t → t = (.im (.lst (ns.map D.int)), some (.ref a)) ∨ t.1 = .no := by
        intro i t q
        cases i with
        | zero => left; simpa using q.symm
        | succ i =>
          right
          have q2 : ((List.replicate (m + 1) Sl.no).zip (none :: List.replicate m (none : Option V)))[i]? = some t := q
          have := List.of_mem_zip (a := t.1) (b := t.2) (List.mem_of_getElem? q2)
          exact List.eq_of_mem_replicate this.1
      refine ⟨fun _ _ h _ => h, Sub.refl _, fun _ _ _ => rfl, fun b o h => ⟨h, by simp⟩, fun a h => (by cases h), fun i t q => ?_, fun i j b ⟨d, q⟩ => ?_, fun i j b ⟨d, q⟩ => ?_⟩
      · rcases key i t q with rfl | h
        · exact Dn.lst hS (dn_ints ns)
        · obtain ⟨t1, t2⟩ := t
          cases h
          trivial
      · rcases q with q | q <;> (rcases key i _ q with h | h <;> cases h)
      · rcases key i _ q with h | h <;> cases h
  · refine ⟨rfl, rfl, ns, rfl, hl, fun row sd h1 h2 h3 h4 => ⟨trivial, row, sd, h1, h2, h3, h4, rfl⟩⟩
  · refine ⟨fun s' σ' Hb' H' ⟨row, sd, h1, h2, h3, h4, h5⟩ e' b' => ?_, fun _ _ _ _ z => z.elim, fun _ _ _ _ z => z.elim, fun _ _ _ _ _ z => z.elim, fun _ _ z => z.elim⟩
    subst h5
    obtain ⟨v, g1, g2, g3⟩ := e'.slot (i := 1) (t := .own (.lst [.lst (row.map D.int), .int 0, .int sd])) rfl (by simp)
    obtain ⟨b, o, rfl, f2, f3, f4, f5, f6⟩ := g2
    cases f6 with
    | @lst xs _ l =>
      obtain ⟨v1, r1, rfl, l1, l⟩ := l.inv
      obtain ⟨v2, r2, rfl, l2, l⟩ := l.inv
      obtain ⟨v3, r3, rfl, l3, l⟩ := l.inv
      have l := l.inv0
      subst l
      obtain ⟨rr, ys, rfl, sq, ly⟩ := l1.lst'
      have := dn_ints' ly
      subst this
      have e2 := l2.int'
      have e3 := l3.int'
      subst e2 e3
      refine ⟨some b, fun _ => none, fun _ => none, ⟨0, .im (.lst (ns.map D.int)) :: .rng :: List.replicate m .no, false⟩, [], Hb', endsF kTrue kNone, ?_, rfl, hG _, ?_⟩
      · have hlen := e'.len
        refine ⟨by simpa using hlen, ?_, fun _ t ht => by simp at ht, ?_⟩
        · intro t ht d
          rcases List.mem_cons.mp ht with h | h
          · rw [h]; simp
          · rcases List.mem_cons.mp h with h | h
            · rw [h]; simp
            · rw [List.eq_of_mem_replicate h]; simp
        · have nb : ∀ c o, Hb' c = some o → some b ≠ some c := fun c o h z => by
            cases z
            rw [f2] at h; cases h
          have key : ∀ (i : Nat) (t : Sl × Option V), ((Sl.im (.lst (ns.map D.int)) :: Sl.rng :: List.replicate m Sl.no).zip σ' ++ [])[i]? = some t → (t.1 = .no ∨ t = (.rng, some (.ref b)) ∨ (t.1 = .im (.lst (ns.map D.int)) ∧ ((Sl.im (.lst (ns.map D.int)) :: Sl.own (.lst [.lst (row.map D.int), .int 0, .int sd]) :: List.replicate m Sl.no).zip σ' ++ [])[i]? = some t)) := by
            intro i t q
            rw [List.append_nil, List.getElem?_zip_eq_some] at q
            obtain ⟨q1, q2⟩ := q
            match i, q1, q2 with
            | 0, q1, q2 =>
              refine .inr (.inr ⟨(Option.some.inj q1).symm, ?_⟩)
              rw [List.append_nil, List.getElem?_zip_eq_some]
              exact ⟨q1, q2⟩
            | 1, q1, q2 =>
              have e1 : Sl.rng = t.1 := Option.some.inj q1
              rw [g1] at q2
              have e2 := Option.some.inj q2
              refine .inr (.inl ?_)
              obtain ⟨t1, t2⟩ := t
              simp only at e1 e2
              rw [← e1, ← e2]
            | i + 2, q1, q2 =>
              left
              have : (List.replicate m Sl.no)[i]? = some t.1 := q1
              exact List.eq_of_mem_replicate (List.mem_of_getElem? this)
          refine ⟨fun _ _ h => (by cases h), fun _ _ h => (by cases h), fun _ _ h => (by cases h), fun c o h => ⟨(e'.e.sub c o h).1, nb c o h⟩, ?_, fun i t q => ?_, fun i j c ⟨d, q⟩ => ?_, fun i j c ⟨d, q⟩ => ?_⟩
          · intro c hc
            cases hc
            exact ⟨rr, row, sd, f5, sq, h2, h1, h3, h4⟩
          · rcases key i t q with h | rfl | ⟨h, q'⟩
            · obtain ⟨t1, t2⟩ := t
              cases h
              trivial
            · exact ⟨b, rfl, rfl⟩
            · have w := e'.e.it i t q'
              obtain ⟨t1, t2⟩ := t
              have h : t1 = _ := h
              subst h
              cases t2 with
              | none => exact w
              | some u => exact w
          · rcases q with q | q <;> (rcases key i _ q with h | h | ⟨h, _⟩ <;> cases h)
          · rcases key i _ q with h | h | ⟨h, _⟩ <;> cases h
      · refine ⟨fun s2 σ2 Hb2 H2 q e2 b2 => (by cases q), fun _ _ _ _ z => z.elim, fun _ _ _ _ z => z.elim, fun c r v Hb2 H2 q ret => ?_, fun _ _ z => z.elim⟩
        have q : r = .im (.bl true) := q
        subst q
        have := SlOk.bl ret.2.1.1
        subst this
        exact hQ H2
end DL

/-! ## FL6 -/
set_option Elab.async false
set_option linter.all false
set_option autoImplicit false
set_option maxRecDepth 100000
set_option maxHeartbeats 400000
namespace DL
open PySem L2
/-! ### loops, turn by turn -/
def fTurn (tg : FG) (body : FS) (vs : List Nat) (d : D) (Γ : List Sl) : Option Ou := (tg d Γ).bind fun Γ1 => match body Γ1 with
  | some (.nx Γ2) => some (.nx (wipeΓ Γ2 vs))
  | some (.ct Γ2) => some (.nx (wipeΓ Γ2 vs))
  | some (.bk Γ2) => some (.bk (wipeΓ Γ2 vs))
  | o => o
section
variable {tg : FG} {body : FS} {vs : List Nat}
theorem fLoop_nil {Γ : List Sl} : fLoop tg body vs [] Γ = some (.nx Γ) := rfl
theorem fLoop_nx {d : D} {ds : List D} {Γ Γ' : List Sl} (h : fTurn tg body vs d Γ = some (.nx Γ')) : fLoop tg body vs (d :: ds) Γ = fLoop tg body vs ds Γ' := by
  unfold fTurn at h
  conv => lhs; unfold fLoop
  cases q : tg d Γ with
  | none => rw [q] at h; cases h
  | some Γ1 =>
    rw [q, Option.bind_some] at h
    rw [Option.bind_some]
    cases q2 : body Γ1 with
    | none => rw [q2] at h; cases h
    | some o => rw [q2] at h; cases o <;> cases h <;> rfl
theorem fLoop_bk {d : D} {ds : List D} {Γ Γ' : List Sl} (h : fTurn tg body vs d Γ = some (.bk Γ')) : fLoop tg body vs (d :: ds) Γ = some (.nx Γ') := by
  unfold fTurn at h
  conv => lhs; unfold fLoop
  cases q : tg d Γ with
  | none => rw [q] at h; cases h
  | some Γ1 =>
    rw [q, Option.bind_some] at h
    rw [Option.bind_some]
    cases q2 : body Γ1 with
    | none => rw [q2] at h; cases h
    | some o => rw [q2] at h; cases o <;> cases h <;> rfl
theorem fLoop_rt {d : D} {ds : List D} {Γ : List Sl} {r : Sl} (h : fTurn tg body vs d Γ = some (.rt r)) : fLoop tg body vs (d :: ds) Γ = some (.rt r) := by
  unfold fTurn at h
  conv => lhs; unfold fLoop
  cases q : tg d Γ with
  | none => rw [q] at h; cases h
  | some Γ1 =>
    rw [q, Option.bind_some] at h
    rw [Option.bind_some]
    cases q2 : body Γ1 with
    | none => rw [q2] at h; cases h
    | some o => rw [q2] at h; cases o <;> cases h <;> rfl
theorem fLoop_xc {d : D} {ds : List D} {Γ Γ' : List Sl} {x : XD} (h : fTurn tg body vs d Γ = some (.xc Γ' x)) : fLoop tg body vs (d :: ds) Γ = some (.xc Γ' x) := by
  unfold fTurn at h
  conv => lhs; unfold fLoop
  cases q : tg d Γ with
  | none => rw [q] at h; cases h
  | some Γ1 =>
    rw [q, Option.bind_some] at h
    rw [Option.bind_some]
    cases q2 : body Γ1 with
    | none => rw [q2] at h; cases h
    | some o => rw [q2] at h; cases o <;> cases h <;> rfl
/-- a loop that reckons on -/
theorem fLoop_fold {α β : Type} (enc : α → D) (st : β → List Sl) (step : β → α → β) : ∀ (xs : List α) (b : β), (∀ pre a post, xs = pre ++ a :: post → fTurn tg body vs (enc a) (st (pre.foldl step b)) = some (.nx (st (step (pre.foldl step b) a)))) →
    fLoop tg body vs (xs.map enc) (st b) = some (.nx (st (xs.foldl step b)))
  | [], b, _ => rfl
  | a :: xs, b, h => by
    have h0 : fTurn tg body vs (enc a) (st b) = some (.nx (st (step b a))) := h [] a xs rfl
    rw [List.map_cons, fLoop_nx h0]
    exact fLoop_fold enc st step xs (step b a) fun pre a' post e => h (a :: pre) a' post (by rw [e]; rfl)
/-- a loop, by what holds between its turns -/
theorem fLoop_inv (Inv : List D → List Sl → Prop) : ∀ (ds pre : List D) (Γ : List Sl), Inv pre Γ → (∀ q d post Γ, pre ++ ds = q ++ d :: post → Inv q Γ → ∃ Γ', fTurn tg body vs d Γ = some (.nx Γ') ∧ Inv (q ++ [d]) Γ') → ∃ Γ', fLoop tg body vs ds Γ = some (.nx Γ') ∧ Inv (pre ++ ds) Γ'
  | [], pre, Γ, h, _ => ⟨Γ, rfl, by rw [List.append_nil]; exact h⟩
  | d :: ds, pre, Γ, h, hs => by
    obtain ⟨Γ1, h1, h2⟩ := hs pre d ds Γ rfl h
    obtain ⟨Γ2, h3, h4⟩ := fLoop_inv Inv ds (pre ++ [d]) Γ1 h2 fun q d' post Γ e hq => hs q d' post Γ (by rw [← e]; simp) hq
    exact ⟨Γ2, by rw [fLoop_nx h1]; exact h3, by simpa using h4⟩
/-! comprehensions -/
variable {tt : FT} {te : FE} {Γ : List Sl}
def fItem (tg : FG) (tt : FT) (te : FE) (Γ : List Sl) (d : D) : Rs (Option D) := (Rs.ofO (tg d Γ)).bnd fun Γ1 => (tt Γ1).bnd fun t => if t = true then ((te Γ1).bnd fun r => Rs.ofO (imS (imm r))).bnd fun y => .ok (some y) else .ok none
theorem compF_cons {d : D} {ds : List D} : compF tg tt te Γ (d :: ds) = (fItem tg tt te Γ d).bnd fun o => match o with | some y => (compF tg tt te Γ ds).bnd fun ys => .ok (y :: ys) | none => compF tg tt te Γ ds := by
  conv => lhs; unfold compF
  unfold fItem
  cases Rs.ofO (tg d Γ) with
  | ok Γ1 =>
    simp only [Rs.bnd_ok]
    cases tt Γ1 with
    | ok t =>
      simp only [Rs.bnd_ok]
      cases t with
      | true =>
        simp only [if_true]
        cases (te Γ1).bnd fun r => Rs.ofO (imS (imm r)) <;> rfl
      | false => rfl
    | _ => rfl
  | _ => rfl
theorem compF_map {α : Type} (enc : α → D) (f : α → D) : ∀ (xs : List α), (∀ a ∈ xs, fItem tg tt te Γ (enc a) = .ok (some (f a))) → compF tg tt te Γ (xs.map enc) = .ok (xs.map f)
  | [], _ => rfl
  | a :: xs, h => by
    rw [List.map_cons, compF_cons, h a (by simp), compF_map enc f xs fun x hx => h x (by simp [hx])]
    rfl
theorem compF_filterMap {α : Type} (enc : α → D) (f : α → Option D) : ∀ (xs : List α), (∀ a ∈ xs, fItem tg tt te Γ (enc a) = .ok (f a)) → compF tg tt te Γ (xs.map enc) = .ok (xs.filterMap f)
  | [], _ => rfl
  | a :: xs, h => by
    rw [List.map_cons, compF_cons, h a (by simp), compF_filterMap enc f xs fun x hx => h x (by simp [hx]), List.filterMap_cons]
    cases f a <;> rfl
end
theorem upFrom_map (lo : Int) (n : Nat) : upFrom lo n = (List.range n).map fun (i : Nat) => D.int (lo + (i : Int)) := rfl
theorem atI_nat' {α : Type} {ds : List α} {j : Nat} {d : α} (h : ds[j]? = some d) : atI ds (j : Int) = some d := atI_nat h
/-! what is read off -/
section
variable {d : D} {i : Int} {b : Bool} {ds : List D} {z : Str} {x : Sl} {xs : List Sl}
@[simp] theorem inS_im : inS (.im (.int i)) = some i := rfl
@[simp] theorem blS_im : blS (.im (.bl b)) = some b := rfl
@[simp] theorem lsS_im : lsS (.im (.lst ds)) = some ds := rfl
@[simp] theorem tuS_im : tuS (.im (.tup ds)) = some ds := rfl
@[simp] theorem stS_im : stS (.im (.str z)) = some z := rfl
@[simp] theorem imS_im : imS (.im d) = some d := rfl
@[simp] theorem tyS_im {n : String} : tyS (.im (.ty n)) = some n := rfl
@[simp] theorem rdD_im : rdD (.im d) = some d := rfl
@[simp] theorem rdD_bor : rdD (.bor d) = some d := rfl
@[simp] theorem dLs_lst : dLs (.lst ds) = some ds := rfl
@[simp] theorem retB_im : retB (.im d) = true := rfl
@[simp] theorem retB_own : retB (.own d) = true := rfl
@[simp] theorem imm_im : imm (.im d) = .im d := rfl
@[simp] theorem imm_own' : imm (.own d) = .im d := rfl
@[simp] theorem imm_bor : imm (.bor d) = .bor d := rfl
@[simp] theorem ims_nil : ims [] = some [] := rfl
@[simp] theorem ims_cons : ims (.im d :: xs) = (ims xs).map (d :: ·) := rfl
@[simp] theorem ownL_own : ownL (some (.own (.lst ds))) = some ds := rfl
@[simp] theorem lstH_own : lstH (.own (.lst ds)) = some ds := rfl
@[simp] theorem lstH_bor : lstH (.bor (.lst ds)) = some ds := rfl
@[simp] theorem scS_im : scS (.im d) = scD d := rfl
@[simp] theorem scD_int : scD (.int i) = some (.int i) := rfl
@[simp] theorem scD_bl : scD (.bl b) = some (.bl b) := rfl
@[simp] theorem scD_str : scD (.str z) = some (.str z) := rfl
@[simp] theorem scD_non : scD .non = some .non := rfl
@[simp] theorem lenA_tup : lenA (.tup ds) = some ds.length := rfl
@[simp] theorem lenA_lst : lenA (.lst ds) = some ds.length := rfl
@[simp] theorem seqS_tup : seqS (.im (.tup ds)) = some ds := rfl
@[simp] theorem seqS_lst : seqS (.im (.lst ds)) = some ds := rfl
@[simp] theorem seqS_bor : seqS (.bor (.lst ds)) = some ds := rfl
@[simp] theorem tyD_str : tyD (.str z) = some "str" := rfl
@[simp] theorem tyD_tup : tyD (.tup ds) = some "tuple" := rfl
@[simp] theorem tyD_lst : tyD (.lst ds) = some "list" := rfl
@[simp] theorem tyD_int : tyD (.int i) = some "int" := rfl
@[simp] theorem tyD_bl : tyD (.bl b) = some "bool" := rfl
@[simp] theorem kit_ss : kitB "str" "str" = some true := by decide +kernel
@[simp] theorem kit_ts : kitB "tuple" "str" = some false := by decide +kernel
@[simp] theorem kit_ii : kitB "int" "int" = some true := by decide +kernel
@[simp] theorem kit_ib : kitB "int" "bool" = some false := by decide +kernel
@[simp] theorem kit_bb : kitB "bool" "bool" = some true := by decide +kernel
@[simp] theorem kit_bi : kitB "bool" "int" = some true := by decide +kernel
@[simp] theorem kit_ll : kitB "list" "list" = some true := by decide +kernel
@[simp] theorem kit_tt : kitB "tuple" "tuple" = some true := by decide +kernel
@[simp] theorem intsD_nil : intsD [] = some [] := rfl
@[simp] theorem intsD_cons : intsD (.int i :: ds) = (intsD ds).map (i :: ·) := rfl
@[simp] theorem intsD_map : ∀ {is : List Int}, intsD (is.map D.int) = some is
  | [] => rfl
  | i :: is => by rw [List.map_cons, intsD_cons, intsD_map]; rfl
@[simp] theorem boolsD_map : ∀ {is : List Bool}, boolsD (is.map D.bl) = some is
  | [] => rfl
  | i :: is => by
    have : boolsD (D.bl i :: is.map D.bl) = (boolsD (is.map D.bl)).map (i :: ·) := rfl
    rw [List.map_cons, this, boolsD_map]; rfl
@[simp] theorem toS_ofO_some {α : Type} {a : α} {Γ : List Sl} {k : α → Option Ou} : toS (Rs.ofO (some a)) Γ k = k a := rfl
end
end DL

/-! ## FSTART -/
set_option Elab.async false
set_option linter.all false
set_option autoImplicit false
set_option maxRecDepth 100000
set_option maxHeartbeats 1000000
namespace DL
open PySem L2
local macro_rules | `(tactic| walk_at "fv") => `(tactic| simp [fTurn, fSeq, fIf, fSet, fRet, fRetM, fRetN, fDrop, fBrk, fCnt, fRaise, fAug, fApp, fSetIx, fAsgT, frz1, fFz, fWp, fNext, hN, hT2, hT3, fTest, fTru, fNot, fAnd, fOr, fTrue, fAndV, fOrV, fNotV, fIfE, fChain, fNoP, fPart, fSl, fIt, fItT, fRng1, fRng2, fVar, fC, fBin, fBinK, fUn, fNil, fCons, fCB, fTup, fLst, fCall, wipeΓ,
  pI, pIC, pLen, pAbs, pInt1, pIxL, pIxT, pSum, pAny, pAll, pTuple, pList, cMul, cDiv, cMod, cPow])
def f_law_start : FS := (fSeq (fSet 1 (fLst fNil))
    (fSeq (fSet 2 (fC (.int 17)))
    (fSeq (fFor (fRng1 (fCB pLen (fCons (fVar 0) fNil))) (hN 3) (fSeq (fSet 4 (fCB pAbs (fCons (fBin pIxL (fVar 0) (fVar 3)) fNil)))
    (fSeq (fSet 2 (fBin pMod (fCB pInt1 (fCons (fBin pAdd (fBin pAdd (fBin pMul (fVar 2) (fC (.int 31))) (fVar 4)) (fVar 3)) fNil)) (fC (.int 2147483647))))
    (fIf (fTest (fBin pGe (fVar 4) (fBin pPow (fC (.int 10)) (fC (.int 18))))) (fSeq (fSet 4 (fBin pSub (fVar 4) (fBin pPow (fC (.int 10)) (fC (.int 18)))))
    (fFor (fRng1 (fC (.int 60))) (hN 5) (fIf (fTest (fBin pGt (fVar 4) (fC (.int 0)))) (fSeq (fApp 1 (fBin pMod (fCB pInt1 (fCons (fVar 4) fNil)) (fC (.int 840))))
    (fSet 4 (fBin pFdiv (fVar 4) (fC (.int 840))))) fNext) [5])) (fSeq (fSet 6 (fBin pMod (fCB pInt1 (fCons (fBin pAdd (fBin pMul (fBin pAdd (fVar 4) (fC (.int 1))) (fC (.int 48271))) (fBin pMul (fVar 3) (fC (.int 69621)))) fNil)) (fC (.int 2147483647))))
    (fSeq (fSet 6 (fBin pMod (fCB pInt1 (fCons (fBin pAdd (fBin pMul (fVar 6) (fC (.int 40692))) (fC (.int 5))) fNil)) (fC (.int 2147483399))))
    (fApp 1 (fBin pMod (fBin pFdiv (fVar 6) (fC (.int 13))) (fC (.int 840))))))))) [3, 4, 5, 6])
    (fFz [1] (fRet (fLst (fCons (fVar 1) (fCons (fC (.int 0)) (fCons (fVar 2) fNil)))))))))
/-- the cells so far, and the seed -/
def RowOk (n : Nat) (row : List Int) : Prop := row.length ≤ n ∧ ∀ x ∈ row, 0 ≤ x ∧ x < 840
theorem RowOk.snoc {n : Nat} {row : List Int} {x : Int} (h : RowOk n row) (h0 : 0 ≤ x) (h1 : x < 840) : RowOk (n + 1) (row ++ [x]) := by
  refine ⟨by rw [List.length_append, List.length_singleton]; exact Nat.succ_le_succ h.1, fun y hy => ?_⟩
  rcases List.mem_append.mp hy with hy | hy
  · exact h.2 y hy
  · rw [List.mem_singleton.mp hy]; exact ⟨h0, h1⟩
theorem RowOk.mono {n m : Nat} {row : List Int} (h : RowOk n row) (hm : n ≤ m) : RowOk m row := ⟨Nat.le_trans h.1 hm, h.2⟩
def stΓ (ns row : List Int) (sd : Int) : List Sl := [.im (.lst (ns.map D.int)), .own (.lst (row.map D.int)), .im (.int sd), .no, .no, .no, .no]
/-- sixty cells of a great number -/
theorem start_inner (ns row : List Int) (sd k cell : Int) (m : Nat) (hr : RowOk m row) (hm : m ≤ 4000) :
    ∃ row' cell', fFor (fRng1 (fC (.int 60))) (hN 5) (fIf (fTest (fBin pGt (fVar 4) (fC (.int 0)))) (fSeq (fApp 1 (fBin pMod (fCB pInt1 (fCons (fVar 4) fNil)) (fC (.int 840))))
      (fSet 4 (fBin pFdiv (fVar 4) (fC (.int 840))))) fNext) [5] [.im (.lst (ns.map D.int)), .own (.lst (row.map D.int)), .im (.int sd), .im (.int k), .im (.int cell), .no, .no] = some (.nx [.im (.lst (ns.map D.int)), .own (.lst (row'.map D.int)), .im (.int sd), .im (.int k), .im (.int cell'), .no, .no]) ∧ RowOk (m + 60) row' := by
  have key := fLoop_inv (tg := hN 5) (body := fIf (fTest (fBin pGt (fVar 4) (fC (.int 0)))) (fSeq (fApp 1 (fBin pMod (fCB pInt1 (fCons (fVar 4) fNil)) (fC (.int 840)))) (fSet 4 (fBin pFdiv (fVar 4) (fC (.int 840))))) fNext) (vs := [5])
    (fun pre Γ => ∃ row' cell', Γ = [.im (.lst (ns.map D.int)), .own (.lst (row'.map D.int)), .im (.int sd), .im (.int k), .im (.int cell'), .no, .no] ∧ RowOk (m + pre.length) row') (upFrom 0 60) [] _ ⟨row, cell, rfl, hr⟩ ?_
  · obtain ⟨Γ', h1, row', cell', rfl, h2⟩ := key
    refine ⟨row', cell', ?_, by simpa [upFrom] using h2⟩
    show toS _ _ _ = _
    exact h1
  · rintro q d post Γ e ⟨row', cell', rfl, h2⟩
    have hq : q.length < 60 := by
      have := congrArg List.length e
      simp [upFrom] at this
      omega
    have hl : (row'.map D.int).length ≤ 1000000 := by rw [List.length_map]; have := h2.1; omega
    by_cases hc : 0 < cell'
    · refine ⟨[.im (.lst (ns.map D.int)), .own (.lst (row'.map D.int ++ [.int (cell' % 840)])), .im (.int sd), .im (.int k), .im (.int (cell' / 840)), .no, .no], ?_, row' ++ [cell' % 840], cell' / 840, by simp, ?_⟩
      · rw [List.length_map] at hl
        walk_at "fv"
        simp [hc, hl]
      · rw [List.length_append, List.length_singleton]
        exact h2.snoc (Int.emod_nonneg _ (by decide)) (Int.emod_lt_of_pos _ (by decide))
    · refine ⟨[.im (.lst (ns.map D.int)), .own (.lst (row'.map D.int)), .im (.int sd), .im (.int k), .im (.int cell'), .no, .no], by walk_at "fv"; simp [hc], row', cell', by simp, ?_⟩
      exact h2.mono (by simp)
def startBody : FS := (fSeq (fSet 4 (fCB pAbs (fCons (fBin pIxL (fVar 0) (fVar 3)) fNil)))
    (fSeq (fSet 2 (fBin pMod (fCB pInt1 (fCons (fBin pAdd (fBin pAdd (fBin pMul (fVar 2) (fC (.int 31))) (fVar 4)) (fVar 3)) fNil)) (fC (.int 2147483647))))
    (fIf (fTest (fBin pGe (fVar 4) (fBin pPow (fC (.int 10)) (fC (.int 18))))) (fSeq (fSet 4 (fBin pSub (fVar 4) (fBin pPow (fC (.int 10)) (fC (.int 18)))))
    (fFor (fRng1 (fC (.int 60))) (hN 5) (fIf (fTest (fBin pGt (fVar 4) (fC (.int 0)))) (fSeq (fApp 1 (fBin pMod (fCB pInt1 (fCons (fVar 4) fNil)) (fC (.int 840))))
    (fSet 4 (fBin pFdiv (fVar 4) (fC (.int 840))))) fNext) [5])) (fSeq (fSet 6 (fBin pMod (fCB pInt1 (fCons (fBin pAdd (fBin pMul (fBin pAdd (fVar 4) (fC (.int 1))) (fC (.int 48271))) (fBin pMul (fVar 3) (fC (.int 69621)))) fNil)) (fC (.int 2147483647))))
    (fSeq (fSet 6 (fBin pMod (fCB pInt1 (fCons (fBin pAdd (fBin pMul (fVar 6) (fC (.int 40692))) (fC (.int 5))) fNil)) (fC (.int 2147483399))))
    (fApp 1 (fBin pMod (fBin pFdiv (fVar 6) (fC (.int 13))) (fC (.int 840)))))))))
theorem start_turn (ns row : List Int) (sd : Int) (m k : Nat) (hk : k < ns.length) (hr : RowOk m row) (hm : m ≤ 3900) :
    ∃ row' sd', fTurn (hN 3) startBody [3, 4, 5, 6] (.int (k : Int)) (stΓ ns row sd) = some (.nx (stΓ ns row' sd')) ∧ RowOk (m + 60) row' ∧ 0 ≤ sd' ∧ sd' < 2147483647 := by
  have hat : atI (ns.map D.int) (k : Int) = some (.int ns[k]) := atI_nat (by rw [List.getElem?_map, List.getElem?_eq_getElem hk]; rfl)
  have hl : row.length ≤ 1000000 := by have := hr.1; omega
  generalize hc : (if ns[k] < 0 then -ns[k] else ns[k]) = cell
  have h0 : 0 ≤ cell := by split at hc <;> omega
  have s0 := Int.emod_nonneg (sd * 31 + cell + (k : Int)) (show (2147483647 : Int) ≠ 0 by decide)
  have s1 := Int.emod_lt_of_pos (sd * 31 + cell + (k : Int)) (show (0 : Int) < 2147483647 by decide)
  by_cases hb : 1000000000000000000 ≤ cell
  · obtain ⟨row', cell', h1, h2⟩ := start_inner ns row ((sd * 31 + cell + (k : Int)) % 2147483647) k (cell - 1000000000000000000) m hr (by omega)
    refine ⟨row', (sd * 31 + cell + (k : Int)) % 2147483647, ?_, h2, s0, s1⟩
    unfold startBody stΓ
    generalize hF : fFor (fRng1 (fC (.int 60))) _ _ _ = G at *
    walk_at "fv"
    simp [hat, hc, hb, h1]
  · refine ⟨row ++ [((((cell + 1) * 48271 + (k : Int) * 69621) % 2147483647) * 40692 + 5) % 2147483399 / 13 % 840], (sd * 31 + cell + (k : Int)) % 2147483647, ?_, ?_, s0, s1⟩
    · unfold startBody stΓ
      generalize hF : fFor (fRng1 (fC (.int 60))) _ _ _ = G at *
      walk_at "fv"
      simp [hat, hc, hb, hl]
    · exact (hr.snoc (Int.emod_nonneg _ (by decide)) (Int.emod_lt_of_pos _ (by decide))).mono (by omega)
theorem start_F (ns : List Int) (hn : ns.length ≤ 63) : ∃ (row : List Int) (sd : Int), finF f_law_start 7 [.lst (ns.map D.int)] = .ok (.own (.lst [.lst (row.map D.int), .int 0, .int sd])) ∧ row.length ≤ 4000 ∧ (∀ n ∈ row, 0 ≤ n ∧ n < 840) ∧ 0 ≤ sd ∧ sd < 2147483647 := by
  have key := fLoop_inv (tg := hN 3) (body := startBody) (vs := [3, 4, 5, 6]) (fun pre Γ => ∃ row sd, Γ = stΓ ns row sd ∧ RowOk (pre.length * 60) row ∧ 0 ≤ sd ∧ sd < 2147483647) (upFrom 0 ns.length) [] (stΓ ns [] 17) ⟨[], 17, rfl, ⟨by simp, by simp⟩, by decide, by decide⟩ ?_
  · obtain ⟨Γ', h1, row, sd, rfl, h2, h3, h4⟩ := key
    have h5 : RowOk (63 * 60) row := h2.mono (by simp [upFrom]; omega)
    refine ⟨row, sd, ?_, by have := h5.1; omega, h5.2, h3, h4⟩
    have hf : f_law_start = (fSeq (fSet 1 (fLst fNil)) (fSeq (fSet 2 (fC (.int 17))) (fSeq (fFor (fRng1 (fCB pLen (fCons (fVar 0) fNil))) (hN 3) startBody [3, 4, 5, 6])
      (fFz [1] (fRet (fLst (fCons (fVar 1) (fCons (fC (.int 0)) (fCons (fVar 2) fNil))))))))) := rfl
    have hfor : fFor (fRng1 (fCB pLen (fCons (fVar 0) fNil))) (hN 3) startBody [3, 4, 5, 6] (stΓ ns [] 17) = some (.nx (stΓ ns row sd)) := by
      unfold fFor stΓ
      walk_at "fv"
      rw [if_pos (by omega)]
      exact h1
    have h6 : f_law_start (stΓ ns [] 17 |>.set 1 .no |>.set 2 .no) = some (.rt (.own (.lst [.lst (row.map D.int), .int 0, .int sd]))) := by
      rw [hf]
      have : fSeq (fSet 1 (fLst fNil)) (fSeq (fSet 2 (fC (.int 17))) (fSeq (fFor (fRng1 (fCB pLen (fCons (fVar 0) fNil))) (hN 3) startBody [3, 4, 5, 6])
        (fFz [1] (fRet (fLst (fCons (fVar 1) (fCons (fC (.int 0)) (fCons (fVar 2) fNil)))))))) ((stΓ ns [] 17 |>.set 1 .no |>.set 2 .no)) = fSeq (fFor (fRng1 (fCB pLen (fCons (fVar 0) fNil))) (hN 3) startBody [3, 4, 5, 6])
        (fFz [1] (fRet (fLst (fCons (fVar 1) (fCons (fC (.int 0)) (fCons (fVar 2) fNil)))))) (stΓ ns [] 17) := rfl
      rw [this]
      conv => lhs; unfold fSeq
      rw [hfor]
      unfold stΓ
      walk_at "fv"
    show (match f_law_start (stΓ ns [] 17 |>.set 1 .no |>.set 2 .no) with | some (.rt r) => Rs.ok r | some (.nx _) => .ok (.im .non) | some (.xc _ x) => .ex x | _ => .bad) = _
    rw [h6]
  · rintro q d post Γ e ⟨row, sd, rfl, h1, h2, h3⟩
    have hq : q.length < ns.length ∧ d = .int (q.length : Int) := by
      have hl := congrArg List.length e
      simp [upFrom] at hl
      refine ⟨by omega, ?_⟩
      have hx : (upFrom 0 ns.length)[q.length]? = some d := by rw [← List.nil_append (upFrom 0 ns.length), e]; simp
      simp [upFrom, show q.length < ns.length by omega] at hx
      exact hx.symm
    obtain ⟨hq, rfl⟩ := hq
    obtain ⟨row', sd', h4, h5, h6, h7⟩ := start_turn ns row sd (q.length * 60) q.length hq h1 (by omega)
    exact ⟨_, h4, row', sd', rfl, h5.mono (by simp; omega), h6, h7⟩
theorem start_ok {c : Nat} {as : List Sl} {k : Nat → Sl → Prop} {kx : Nat → XD → Prop} (h : gStart c as k kx) : gF 1 (finF f_law_start 7) c as k kx := by
  obtain ⟨ns, rfl, hn, h⟩ := h
  obtain ⟨row, sd, h1, h2, h3, h4, h5⟩ := start_F ns hn
  refine ⟨[.lst (ns.map D.int)], rfl, rfl, ?_⟩
  rw [h1]
  exact h row sd h2 h3 h4 h5
end DL

/-! ## END -/
set_option Elab.async false
set_option linter.all false
set_option autoImplicit false
set_option maxRecDepth 100000
set_option maxHeartbeats 400000
namespace DL
open PySem L2
theorem fun_of_D {K : PySem.W.Frag} {x q : Str} {st : Stmt} {f : Addr} {fd : FuncData} (F : FunD K x q (defArgs st) (defBody st) (defScope st) [] [] f fd) : Fun K x q st f fd := by
  obtain ⟨⟨oc, od, dV, kV, doc, pm, an, cdv, ct, osl, h1, h2, h3, hD, hK⟩, kp⟩ := F
  rcases hD with ⟨_, rfl⟩ | ⟨e, _⟩
  · exact ⟨⟨oc, od, kV, doc, pm, an, cdv, ct, osl, h1, h2, h3⟩, kp⟩
  · exact absurd rfl e
/-- where a def stands -/
structure At (K : PySem.W.Frag) (mg : Str → Option Value) (x : Str) (st : Stmt) (ps : List Str) (f : Addr) (fd : FuncData) : Prop where
  F : Fun K x x st f fd
  g : mg x = some (.ref f)
  b : Binds K fd ps []
section
variable {P : Program} {w : World} {K : PySem.W.Frag} {mg : Str → Option Value} {base : Heap} {x : Str} {st : Stmt} {ps : List Str} {f : Addr} {fd : FuncData} {k n : Nat}
theorem At.fnD {G : SF} (A : At K mg x st ps f fd) (h : FnOk P w K mg base (L2.CX P w) k f fd ps (spD K n G)) : FnD P w K mg base k x n G := ⟨f, fd, ps, h, A.g, A.F.kp, A.b⟩
theorem fnOk_bad {G : SF} (hp : ps.length = n) (h : ∀ c as k kx, ¬ G c as k kx) : FnOk P w K mg base (L2.CX P w) k f fd ps (spD K n G) :=
  ⟨fun vs H Q E q => q.1.trans hp.symm, fun A outer s H args us vs Q E hr he hb hv ⟨_, R, Hb, c, as, k', kx, e, ha, hi, hg, r⟩ => absurd hg (h _ _ _ _)⟩
theorem fnOk_any {ι : Type} {G : ι → SF} (hp : ps.length = n) (h : ∀ i, FnOk P w K mg base (L2.CX P w) k f fd ps (spD K n (G i))) : FnOk P w K mg base (L2.CX P w) k f fd ps (spD K n fun c as k kx => ∃ i, G i c as k kx) :=
  ⟨fun vs H Q E q => q.1.trans hp.symm, fun A outer s H args us vs Q E hr he hb hv ⟨hl, R, Hb, c, as, k', kx, e, ha, hi, ⟨i, hg⟩, r⟩ => (h i).run A outer s H args us vs Q E hr he hb hv ⟨hl, R, Hb, c, as, k', kx, e, ha, hi, hg, r⟩⟩
theorem fnOk_imp {G G' : SF} (h : FnOk P w K mg base (L2.CX P w) k f fd ps (spD K n G)) (q : ∀ c as k kx, G' c as k kx → G c as k kx) : FnOk P w K mg base (L2.CX P w) k f fd ps (spD K n G') :=
  h.imp fun vs H Q E ⟨hl, R, Hb, c, as, k, kx, e, ha, hi, hg, r⟩ => ⟨hl, R, Hb, c, as, k, kx, e, ha, hi, q _ _ _ _ hg, r⟩
end
/-! the head's facts -/
/-- a def of the top -/
def dfn (x : Str) (st : Stmt) : He.DefD := ⟨(x, none), x, x, defArgs st, defBody st, defScope st, [], []⟩
theorem at_of {K : PySem.W.Frag} {h : Heap} {mg : Str → Option Value} {fa : List He.Fa} {fn : List He.DefD} {x : Str} {st : Stmt} (ps : List Str) (X : K.In h) (G : h.Ns mainGlobals mg) (c : He.SaysD fa fn K) (h1 : dfn x st ∈ fn) (h2 : He.Fa.glo x ∈ fa)
    (hb : ∀ (kV doc pm : Value) (an : Option Addr) (cdv ct : Value) (us : List Value), us.length = ps.length → bindArgs (PySem.W.fnOf x x (defArgs st) (defBody st) (defScope st) .none kV doc pm an cdv ct) ⟨us, []⟩ = pure (ps.zip us)) :
    ∃ fd, At K mg x st ps (He.fAd K (x, none)) fd ∧ ∀ (s : Shared) (us : List Value), us.length = ps.length → BindsTo s fd ⟨us, []⟩ (ps.zip us) := by
  obtain ⟨fd, F⟩ := c.defs h1
  have F : FunD K x x (defArgs st) (defBody st) (defScope st) [] [] (He.fAd K (x, none)) fd := F
  exact ⟨fd, ⟨fun_of_D F, He.glo_ok X G (c.facts h2), F.bindsN hb⟩, fun s us hu => F.bindsA hb s us hu⟩
theorem xc_of {K : PySem.W.Frag} {h : Heap} {mg : Str → Option Value} {fa : List He.Fa} {fn : List He.DefD} {x : Str} (X : K.In h) (G : h.Ns mainGlobals mg) (c : He.SaysD fa fn K) (h1 : He.Fa.exc x ∈ fa) (h2 : He.Fa.glo x ∈ fa) : XcC K mg x (He.ga K x) := by
  obtain ⟨a, b, d, e⟩ := He.exc_ok (c.facts h1)
  exact ⟨a, He.glo_ok X G (c.facts h2), b, d, e⟩
/-- what ExcC asks, looked at -/
def excB (K : PySem.W.Frag) (x : Str) : Bool :=
  He.eqO (PySem.W.findIn K (.ref (He.ga K x)) "__getattribute__") (some (some (.builtin "BaseException.__getattribute__"))) && (He.eqO (PySem.W.findIn K (.ref (He.ga K x)) "__getattr__") (some none) &&
  (decide (PySem.W.subIn K (.ref (He.ga K x)) (.type "BaseException") = some true) && (PySem.W.hasDictIn K (He.ga K x) && (He.eqO (PySem.W.findIn K (.ref (He.ga K x)) "__class__") (some (some (.builtin "object.__class__"))) &&
  (He.eqO (PySem.W.specialIn K (.builtin "object.__class__") "__get__") (some (some (.builtin "getset_descriptor.__get__"))) && (decide (PySem.W.takesIn K (.builtin "object.__class__") = some true) && decide (PySem.W.mroIn K (He.ga K x) (.type "object") = some true)))))))
theorem excB_ok {K : PySem.W.Frag} {x : Str} (h : excB K x = true) : ExcC K (He.ga K x) := by
  obtain ⟨h1, h⟩ := He.ba h
  obtain ⟨h2, h⟩ := He.ba h
  obtain ⟨h3, h⟩ := He.ba h
  obtain ⟨h4, h⟩ := He.ba h
  obtain ⟨h5, h⟩ := He.ba h
  obtain ⟨h6, h⟩ := He.ba h
  obtain ⟨h7, h8⟩ := He.ba h
  exact ⟨He.eqO_ok h1, He.eqO_ok h2, of_decide_eq_true h3, h4, He.eqO_ok h5, He.eqO_ok h6, of_decide_eq_true h7, of_decide_eq_true h8⟩
theorem kit_self {K : PySem.W.Frag} {a : Addr} : PySem.W.kitOne K (.ref a) (.ref a) = some true := by
  unfold PySem.W.kitOne
  rw [if_pos (by simp)]
theorem spLaw_ok {K : PySem.W.Frag} {H : Hp} {a : Addr} {ns : List Int} (hl : ns.length ≤ 63) (hS : SqL K H a (ns.map V.int)) : spLaw K [.ref a] H (fun v _ => v = .bl true) fun _ _ _ => False := ⟨a, ns, rfl, hS, hl, fun _ => rfl⟩
theorem cx_none {P : Program} {w : World} {H : Hp} {s : Shared} {e : Value} {s' : Shared} (h : L2.CX P w [] H s (fun _ _ _ => False) e s') : False := by
  obtain ⟨_, _, _, _, _, _, _, _, _, _, _, _, z⟩ := h
  exact z
/-- a law whose defs may raise: its end -/
theorem law_end {l : PySem.W.OpenLaw} {k : Nat} {q : Program} {loose : List Str} {XP : (Str → Option Value) → Heap → Prop} {YP : World → Heap → Prop} {d : DefRec} (hn : l.most = some 63) (hdf : d.params.defaults = []) (hr : Room k callerA)
    (F : ∀ (w : World) (mg : Str → Option Value) (fa : Addr) (h : Heap), YP w h → h.Ns mainGlobals mg → mg d.name = some (.ref fa) → ∃ (K : PySem.W.Frag) (fd : FuncData), K.In h ∧ (∀ (s : Shared) (u : Value), BindsTo s fd ⟨[u], []⟩ [("script", u)]) ∧
      ∀ base : Heap, K.In base → base.Ns mainGlobals mg → FnOk l.prog w K mg base (L2.CX l.prog w) k fa fd ["script"] (spLaw K)) : PySem.W.WalkO q loose XP YP l.row.toRowW d [] (fun f vs => PySem.call f vs) := by
  refine Att.attach_call hn hdf fun w z0 z1 mg mb fa o pm cd doc a vs ns G Y ho hd hcd hmg hob hin hlen hge => ?_
  obtain ⟨K, fd, KX, hb, hF⟩ := F w mg fa _ Y G.T.g hmg
  exact law_call KX G.T.g G.T.b G.T.builtins G.T.nolimit hge hob hin (Nat.le_trans hlen (by decide)) hr hF hb (fun H _ hS => spLaw_ok hlen hS) fun _ _ _ h => cx_none h
end DL

/-! ## K86S -/
set_option Elab.async false
set_option linter.all false
set_option autoImplicit false
set_option maxRecDepth 100000
set_option maxHeartbeats 1000000
namespace K86S
open PySem L2 DL
def topS (i : Nat) : Stmt := PySem.Challenge.pw_kingsandcourts_k86_parts_and_places.main.body.getD i (.Pass ⟨0, 0, 0, 0⟩)
/-! ### _law_start -/
abbrev s_law_start : Stmt := topS 12
theorem sc_law_start : FnScope ["script", "row", "seed", "k", "cell", "j", "mixed"] ["script"] (defScope s_law_start) := ⟨rfl, rfl, rfl, by decide +kernel, rfl, by decide +kernel, by decide +kernel⟩
theorem w_law_start {P : Program} {w : World} {K : PySem.W.Frag} {mg : Str → Option Value} {base : Heap} {f : Addr} {fd : FuncData} {k : Nat} (F : Fun K "_law_start" "_law_start" s_law_start f fd) (m_len : mg "len" = none) (m_range : mg "range" = none) (m_abs : mg "abs" = none) (m_int : mg "int" = none) :
    FnOk P w K mg base (L2.CX P w) (k + 1) f fd ["script"] (spD K 1 (gF 1 (finF (f_law_start ) 7))) := by
  refine fn_F (body := f_law_start ) F sc_law_start rfl rfl (fun cdv A outer s H E hr tk po => ?_)
  exact (fs_cons (fs_set (i := 1) sc_law_start.nd (fe_lst (pe_lst fa_nil)))
    (fs_cons (fs_set (i := 2) sc_law_start.nd fe_int)
    (fs_cons (fs_for [3, 4, 5, 6] po (fi_rng1 m_range (fa_cons (fe_cb call_len kf_len m_len boot_len (fa_cons (fe_var 0) fa_nil)) fa_nil)) ((pg_name (i := 3) sc_law_start.nd rfl (by first | exact Or.inl rfl | exact Or.inr rfl))) (kg_N 3) (fs_cons (fs_set (i := 4) sc_law_start.nd (fe_cb call_abs kf_abs m_abs PyProof.Rows.boot_abs (fa_cons (fe_ix ix_list kf_ixL (fe_var 0) (fe_var 3)) fa_nil)))
    (fs_cons (fs_set (i := 2) sc_law_start.nd (fe_op op_mod kf_mod (fe_cty call_int1 kf_int1 m_int PyProof.Rows.boot_int (fa_cons (fe_op op_add kf_add (fe_op op_add kf_add (fe_op op_mul kf_mul (fe_var 2) fe_int) (fe_var 4)) (fe_var 3)) fa_nil)) fe_int))
    (ds_one (fs_if (ft_cmp op_ge kf_ge (fe_var 4) (fe_op op_pow kf_pow fe_int fe_int)) (fs_cons (fs_set (i := 4) sc_law_start.nd (fe_op op_sub kf_sub (fe_var 4) (fe_op op_pow kf_pow fe_int fe_int)))
    (ds_one (fs_for [5] po (fi_rng1 m_range (fa_cons fe_int fa_nil)) ((pg_name (i := 5) sc_law_start.nd rfl (by first | exact Or.inl rfl | exact Or.inr rfl))) (kg_N 5) (ds_one (fs_if (ft_cmp op_gt kf_gt (fe_var 4) fe_int) (fs_cons (fs_app rfl (fe_op op_mod kf_mod (fe_cty call_int1 kf_int1 m_int PyProof.Rows.boot_int (fa_cons (fe_var 4) fa_nil)) fe_int) (ps_expr (pe_bm PySem.F.plainAttrs_list PySem.F.slot_list_append PySem.F.type_list_append mt_append (pv 1) (pa_cons (fe_op op_mod kf_mod (fe_cty call_int1 kf_int1 m_int PyProof.Rows.boot_int (fa_cons (fe_var 4) fa_nil)) fe_int) pa_nil))))
    (ds_one (fs_set (i := 4) sc_law_start.nd (fe_op op_fdiv kf_fdiv (fe_var 4) fe_int)))) fs_nil))))) (fs_cons (fs_set (i := 6) sc_law_start.nd (fe_op op_mod kf_mod (fe_cty call_int1 kf_int1 m_int PyProof.Rows.boot_int (fa_cons (fe_op op_add kf_add (fe_op op_mul kf_mul (fe_op op_add kf_add (fe_var 4) fe_int) fe_int) (fe_op op_mul kf_mul (fe_var 3) fe_int)) fa_nil)) fe_int))
    (fs_cons (fs_set (i := 6) sc_law_start.nd (fe_op op_mod kf_mod (fe_cty call_int1 kf_int1 m_int PyProof.Rows.boot_int (fa_cons (fe_op op_add kf_add (fe_op op_mul kf_mul (fe_var 6) fe_int) fe_int) fa_nil)) fe_int))
    (ds_one (fs_app rfl (fe_op op_mod kf_mod (fe_op op_fdiv kf_fdiv (fe_var 6) fe_int) fe_int) (ps_expr (pe_bm PySem.F.plainAttrs_list PySem.F.slot_list_append PySem.F.type_list_append mt_append (pv 1) (pa_cons (fe_op op_mod kf_mod (fe_op op_fdiv kf_fdiv (fe_var 6) fe_int) fe_int) pa_nil))))))))))))
    (ds_one (fs_fz [1] (fs_ret (fe_lst (pe_lst (fa_cons (fe_var 1) (fa_cons fe_int (fa_cons (fe_var 2) fa_nil)))))))))))
abbrev s_law_take : Stmt := topS 13
theorem sc_law_take : FnScope ["state", "many", "at", "mixed"] ["state", "many"] (defScope s_law_take) := ⟨rfl, rfl, rfl, by decide +kernel, rfl, by decide +kernel, by decide +kernel⟩
theorem w_law_take {P : Program} {w : World} {K : PySem.W.Frag} {mg : Str → Option Value} {base : Heap} {f : Addr} {fd : FuncData} {k : Nat} (F : Fun K "_law_take" "_law_take" s_law_take f fd) (m_len : mg "len" = none) (m_int : mg "int" = none) :
    FnOk P w K mg base (L2.CX P w) (k + 1) f fd ["state", "many"] (spD K 2 gTake) := by
  refine F.okX sc_law_take (fun vs H Q E h => h.1) (fun cdv A outer s H vs Q E hr h => ⟨_, PSs.nox (pss_cons (ps_set (i := 2) sc_law_take.nd rfl (.inl rfl) (pe_ix ix_list (pv 0) pe_int (fun _ _ => rfl)))
    (pss_cons (ps_asg (pe_op op_add (pv 2) pe_int) (pg_sub (pv 0) pe_int set_list))
    (pss_cons (ps_if (pt_cmpR op_lt (pv 2) (pe_callB call_len_seq (by rfl) m_len boot_len (pa_cons (pe_ix ix_list (pv 0) pe_int (fun _ _ => rfl)) pa_nil)) (nomark _))
      (pss_one (ps_ret (pe_op op_mod (pe_callTy call_int1 (by rfl) m_int PyProof.Rows.boot_int (pa_cons (pe_ix ix_list (pe_ix ix_list (pv 0) pe_int (fun _ _ => rfl)) (pv 2) (fun _ _ => rfl)) pa_nil)) (pv 1)))) pss_nil)
    (pss_cons (ps_set (i := 3) sc_law_take.nd rfl (.inl rfl) (pe_op op_mod (pe_callTy call_int1 (by rfl) m_int PyProof.Rows.boot_int (pa_cons (pe_op op_mul (pe_op op_add (pe_ix ix_list (pv 0) pe_int (fun _ _ => rfl)) (pe_op op_mul (pv 2) pe_int)) pe_int) pa_nil)) pe_int))
    (pss_cons (ps_set (i := 3) sc_law_take.nd rfl (.inl rfl) (pe_op op_mod (pe_callTy call_int1 (by rfl) m_int PyProof.Rows.boot_int (pa_cons (pe_op op_add (pe_op op_mul (pv 3) pe_int) (pe_op op_mul (pv 2) (pv 2))) pa_nil)) pe_int))
    (pss_one (ps_ret (pe_op op_mod (pe_op op_fdiv (pv 3) pe_int) (pv 1))))))))), ?_⟩)
  obtain ⟨hl, R, Hb, c, as, k', kx, e, ha, him, ⟨m, rfl, hm, hc, hk⟩, hq, hx⟩ := h
  obtain ⟨v0, v1, rfl, h0, h1⟩ := args2 ha
  obtain ⟨a, rfl, rfl⟩ := h0
  have h1 := SlOk.int h1
  subst h1
  obtain ⟨rr, ns, sd, e1, e2, e3, e4, e5, e6⟩ := e.rng a rfl
  have fin : ∀ r : Int, 0 ≤ r → r < m → Q (.int r) (upd H a (.lst [.ref rr, .int ((c : Int) + 1), .int sd])) := fun r r0 r1 =>
    hq (c + 1) _ (hk r r0 r1) (.int r) Hb _ ⟨e.drawn e1, ResOk.im (Dn.int r), fun d => by simp, fun d => by simp⟩
  have eL : SqL K (upd H a (.lst [.ref rr, .int ((c : Int) + 1), .int sd])) a [.ref rr, .int ((c : Int) + 1), .int sd] := SqL.of upd_same
  have eR : SqL K (upd H a (.lst [.ref rr, .int ((c : Int) + 1), .int sd])) rr (ns.map V.int) := (e.drawn e1).subH.sqL e2
  -- at = state[1]; state[1] = at + 1
  refine ⟨_, rfl, a, _, 1, .int c, rfl, rfl, SqL.of e1, atI_nat (j := 1) rfl, ?_⟩
  refine ⟨_, rfl, _, _, rfl, rfl, _, rfl, a, _, 1, 1, rfl, rfl, e1, rfl, ?_⟩
  -- if at < len(state[0])
  refine ⟨_, rfl, _, rfl, a, _, 0, .ref rr, rfl, rfl, eL, atI_nat (j := 0) rfl, rr, _, rfl, .inl eR, _, _, rfl, rfl, _, rfl, ite2 (fun q => ?_) (fun _ => ?_)⟩
  · have q' : (c : Int) < ((ns.map V.int).length : Int) := of_decide_eq_true q
    rw [List.length_map] at q'
    have hcl : c < ns.length := by omega
    refine ⟨_, rfl, a, _, 0, .ref rr, rfl, rfl, eL, atI_nat (j := 0) rfl, _, rfl, rr, _, c, .int ns[c], rfl, rfl, eR, atI_nat (j := c) (by rw [List.getElem?_map, List.getElem?_eq_getElem hcl]; rfl), .inl ⟨_, rfl, ?_⟩⟩
    refine ⟨_, rfl, _, _, rfl, rfl, hm, ?_⟩
    exact fin _ (Int.emod_nonneg _ (by omega)) (Int.emod_lt_of_pos _ hm)
  · refine ⟨_, rfl, a, _, 2, .int sd, rfl, rfl, eL, atI_nat (j := 2) rfl, _, rfl, _, _, rfl, rfl, .inl ⟨by omega, by omega⟩, _, _, rfl, rfl, _, _, rfl, rfl, .inr ⟨by decide, by decide⟩, .inl ⟨_, rfl, _, _, rfl, rfl, (by show (0 : Int) < 2147483647; decide), ?_⟩⟩
    refine ⟨_, rfl, _, _, rfl, rfl, .inr ⟨by decide, by decide⟩, _, rfl, _, rfl, _, _, rfl, rfl, .inl ⟨by omega, by omega⟩, _, _, rfl, rfl, .inl ⟨_, rfl, _, _, rfl, rfl, (by show (0 : Int) < 2147483629; decide), ?_⟩⟩
    refine ⟨_, rfl, _, _, rfl, rfl, (by show (0 : Int) < 11 ∧ (11 : Int) < 1073741824; decide), _, rfl, _, _, rfl, rfl, hm, ?_⟩
    exact fin _ (Int.emod_nonneg _ (by omega)) (Int.emod_lt_of_pos _ hm)

/-! ### law -/
abbrev s_law : Stmt := topS 22
theorem sc_law : FnScope ["script", "state", "term", "part", "atom"] ["script"] (defScope s_law) := ⟨rfl, rfl, rfl, by decide +kernel, rfl, by decide +kernel, by decide +kernel⟩
def b_law (g__law_term g__law_one g__law_atom : SF) : SS := (dSeq (dSet 2 (dCall 2 g__law_term (dCons (dVar 1) (dCons (dC (.int 4)) dNil))))
    (dSeq (dSet 3 (dCall 2 g__law_term (dCons (dVar 1) (dCons (dC (.int 2)) dNil))))
    (dSeq (dIfS (dNot (dTest (dCall 3 g__law_one (dCons (dVar 1) (dCons (dVar 2) (dCons (dVar 3) dNil)))))) (lS (fRet (fC (.bl false)))) dNext)
    (dSeq (dSet 4 (dCall 1 g__law_atom (dCons (dVar 1) dNil)))
    (dRet (dCall 3 g__law_one (dCons (dVar 1) (dCons (dVar 4) (dCons (dCall 2 g__law_term (dCons (dVar 1) (dCons (dC (.int 2)) dNil))) dNil)))))))))
theorem w_law {P : Program} {w : World} {K : PySem.W.Frag} {mg : Str → Option Value} {base : Heap} {f : Addr} {fd : FuncData} {k : Nat} {g__law_term g__law_one g__law_atom : SF} (F : Fun K "law" "law" s_law f fd) (c__law_term : FnD P w K mg base k "_law_term" 2 g__law_term) (c__law_one : FnD P w K mg base k "_law_one" 3 g__law_one) (c__law_atom : FnD P w K mg base k "_law_atom" 1 g__law_atom) (c__law_start : FnD P w K mg base k "_law_start" 1 gStart)
    (hG : ∀ d : D, b_law g__law_term g__law_one g__law_atom (endsF kTrue kNone) ⟨0, .im d :: .rng :: List.replicate 3 .no, false⟩) : FnOk P w K mg base (L2.CX P w) (k + 1) f fd ["script"] (spLaw K) := by
  refine fn_law (m := 3) (rest := b_law g__law_term g__law_one g__law_atom) F sc_law rfl rfl (fun cdv A outer s H E hr tk po => ⟨?_, ?_⟩) hG
  · exact (ds_set (i := 1) sc_law.nd (de_call c__law_start hr tk (Nat.le_refl _) (da_cons (de_var 0) da_nil)))
  · exact (ds_cons (ds_set (i := 2) sc_law.nd (de_call c__law_term hr tk (Nat.le_refl _) (da_cons (de_var 1) (da_cons de_int da_nil))))
    (ds_cons (ds_set (i := 3) sc_law.nd (de_call c__law_term hr tk (Nat.le_refl _) (da_cons (de_var 1) (da_cons de_int da_nil))))
    (ds_cons (ds_if (dt_not (dt_val (de_call c__law_one hr tk (Nat.le_refl _) (da_cons (de_var 1) (da_cons (de_var 2) (da_cons (de_var 3) da_nil)))))) (ds_one (fs_ret fe_bl)) ds_nil)
    (ds_cons (ds_set (i := 4) sc_law.nd (de_call c__law_atom hr tk (Nat.le_refl _) (da_cons (de_var 1) da_nil)))
    (ds_one (ds_ret (de_call c__law_one hr tk (Nat.le_refl _) (da_cons (de_var 1) (da_cons (de_var 4) (da_cons (de_call c__law_term hr tk (Nat.le_refl _) (da_cons (de_var 1) (da_cons de_int da_nil))) da_nil))))))))))
end K86S

/-! ## P86m -/
set_option Elab.async false
set_option linter.all false
set_option autoImplicit false
set_option maxRecDepth 100000
set_option maxHeartbeats 1000000
namespace K86
open PySem L2 DL
local macro_rules | `(tactic| walk_at "ev") => `(tactic| simp [dSeq, dIfS, dRet, dRetN, dDrop, dSet, dAug, dApp, dSetIx, dAsgT, dNext, dBrk, dCnt, dRaise, dFor, dIt, dItT, dRng1, dRng2, gN, gT2, gT3, dTest, dAnd, dOr, dNot, dAndV, dOrV, dNotV, dIf, dTru, dTrue, dCall, dCB, dCons, dNil, dVar, dFrz, dMov, dC, dBin, dBinK, dUn, dTup, dLst, dSl, dPart, dNoP, dChain, dLc, wipeΓ,
  startΓ, endsF, imm, pend, retable, argIm, ims, oI, oIC, oEqS, oNeS, oCatT, oCatS, oCatH, lstH, oIxT, oIxL, oIxS, oSlT, oSlL, oNeg, oLenA, lenA, oSum, oAny, oAll, oTuple, oList, oInt1, oIsi, oAbs, rdD, scD, truD, tyD, scal, and_assoc])
/-! where no def is called by itself -/
def gBad : SF := fun _ _ _ _ => False
section
variable (c : Nat) (as : List Sl) (k : Nat → Sl → Prop) (kx : Nat → XD → Prop)
theorem b_size (h : gSize 0 c as k kx) : b_term_size gUnk gBad (endsF k kx) ⟨c, startΓ 1 2 as, false⟩ := by
  obtain ⟨d, rfl, hd, h⟩ := h
  unfold b_term_size
  cases hd with
  | u hx hl =>
    walk_at "ev"
    simp [gUnk]
    rw [plN_str] at h
    exact h
theorem b_places (h : gPlaces 0 c as k kx) : b_places_of gUnk gBad (endsF k kx) ⟨c, startΓ 1 4 as, false⟩ := by
  obtain ⟨d, rfl, hd, h⟩ := h
  unfold b_places_of
  cases hd with
  | u hx hl =>
    walk_at "ev"
    simp [gUnk]
    rw [plN_str] at h
    exact h
theorem b_lplaces (h : gPlaces 0 c as k kx) : b_law_places gBad (endsF k kx) ⟨c, startΓ 1 4 as, false⟩ := by
  obtain ⟨d, rfl, hd, h⟩ := h
  unfold b_law_places
  cases hd with
  | u hx hl =>
    walk_at "ev"
    rw [plN_str] at h
    exact h
theorem b_unks (h : gUnks 0 c as k kx) : b_unknowns_of gUnk gBad (endsF k kx) ⟨c, startΓ 1 4 as, false⟩ := by
  obtain ⟨d, rfl, hd, h⟩ := h
  unfold b_unknowns_of
  cases hd with
  | u hx hl =>
    walk_at "ev"
    simp [gUnk]
    unfold unk at h
    rw [strN_str] at h
    exact h
theorem b_repl (C : Addr) (h : gRepl C 0 c as k kx) : b_replace_at gUnk gBad C (endsF k kx) ⟨c, startΓ 3 5 as, false⟩ := by
  obtain ⟨d, is, u, rfl, hlen, ⟨m, hd⟩, h⟩ := h
  cases is with
  | nil =>
    unfold b_replace_at
    walk_at "ev"
    simpa [putP] using h
  | cons i is => simp at hlen
theorem b_put (h : gPut 0 c as k kx) : b_law_put gBad (endsF k kx) ⟨c, startΓ 3 4 as, false⟩ := by
  obtain ⟨d, is, u, e, rfl, hlen, ⟨m, hd⟩, he, h⟩ := h
  cases is with
  | nil =>
    unfold b_law_put
    walk_at "ev"
    simp only [putP, Option.some.injEq] at he
    subst he
    simpa using h
  | cons i is => simp at hlen
theorem b_term (h : gTerm 0 c as k kx) : b_law_term gTake gBad (endsF k kx) ⟨c, startΓ 2 4 as, false⟩ := by
  obtain ⟨rfl, hc, h⟩ := h
  have leaf : ∀ (c' : Nat) (r : Int), c' ≤ c + 4 → 0 ≤ r → r < 6 → ∃ d, atI [D.str "x", .str "y", .str "z9", .tup [.str "a"], .tup [.str "b"], .tup [.str "longname12"]] r = some d ∧ k c' (.im d) := fun c' r hc' h0 h6 => by
    rcases lt6 h0 h6 with rfl | rfl | rfl | rfl | rfl | rfl
    · exact ⟨_, rfl, h _ _ (.u (by decide +kernel) (by decide +kernel)) hc'⟩
    · exact ⟨_, rfl, h _ _ (.u (by decide +kernel) (by decide +kernel)) hc'⟩
    · exact ⟨_, rfl, h _ _ (.u (by decide +kernel) (by decide +kernel)) hc'⟩
    · exact ⟨_, rfl, h _ _ (tm_leaf (by decide +kernel)) hc'⟩
    · exact ⟨_, rfl, h _ _ (tm_leaf (by decide +kernel)) hc'⟩
    · exact ⟨_, rfl, h _ _ (tm_leaf (by decide +kernel)) hc'⟩
  have c1 : c < 1000000000 := by omega
  have c2 : c + 1 < 1000000000 := by omega
  refine ⟨rfl, rfl, take_of (by omega) c1 fun kind k0 k8 => ⟨trivial, ?_⟩⟩
  refine if_or (n := 0) (fun _ => ?_) fun hn => absurd (Or.inl rfl) hn
  refine ⟨_, rfl, len_ok rfl, _, rfl, len_ok rfl, _, rfl, len_ok rfl, _, rfl, len_ok rfl, trivial, ?_⟩
  refine ⟨rfl, rfl, take_of (by omega) c2 fun r r0 r6 => ?_⟩
  have hb : c + 1 + 1 ≤ c + 4 := by clear leaf; omega
  exact Exists.elim (leaf (c + 1 + 1) r hb r0 r6) fun d q => ⟨_, r, d, rfl, rfl, q.1, trivial, q.2⟩
end
/-! law -/
def gTermA : SF := fun c as k kx => ∃ n, n ≤ 4 ∧ gTerm n c as k kx
def b_law (g__law_term g__law_one g__law_atom : SF) : SS := (dSeq (dSet 2 (dCall 2 g__law_term (dCons (dVar 1) (dCons (dC (.int 4)) dNil))))
    (dSeq (dSet 3 (dCall 2 g__law_term (dCons (dVar 1) (dCons (dC (.int 2)) dNil))))
    (dSeq (dIfS (dNot (dTest (dCall 3 g__law_one (dCons (dVar 1) (dCons (dVar 2) (dCons (dVar 3) dNil)))))) (lS (fRet (fC (.bl false)))) dNext)
    (dSeq (dSet 4 (dCall 1 g__law_atom (dCons (dVar 1) dNil)))
    (dRet (dCall 3 g__law_one (dCons (dVar 1) (dCons (dVar 4) (dCons (dCall 2 g__law_term (dCons (dVar 1) (dCons (dC (.int 2)) dNil))) dNil)))))))))
theorem p_law (d : D) : b_law gTermA gOne gAtom (endsF kTrue kNone) ⟨0, .im d :: .rng :: List.replicate 3 .no, false⟩ := by
  refine ⟨rfl, rfl, 4, by decide, rfl, (show 0 + 1024 < 1000000000 by decide), fun t c1 ht hc1 => ⟨trivial, ?_⟩⟩
  have h1 : c1 ≤ 0 + 1024 := hc1
  refine ⟨rfl, rfl, 2, by decide, rfl, (show c1 + 64 < 1000000000 by omega), fun p c2 hp hc2 => ⟨trivial, ?_⟩⟩
  have h2 : c2 ≤ c1 + 64 := hc2
  refine ⟨rfl, rfl, t, p, rfl, ht, hp, (show c2 + 10 < 1000000000 by omega), fun c3 hc3 => ⟨true, rfl, ?_⟩⟩
  have h3 : c3 ≤ c2 + 10 := hc3
  refine ⟨rfl, rfl, rfl, (show c3 + 2000 < 1000000000 by omega), fun a c4 ha hc4 => ⟨trivial, ?_⟩⟩
  have h4 : c4 ≤ c3 + 2000 := hc4
  refine ⟨rfl, rfl, 2, by decide, rfl, (show c4 + 64 < 1000000000 by omega), fun q c5 hq hc5 => ?_⟩
  have h5 : c5 ≤ c4 + 64 := hc5
  exact ⟨rfl, rfl, a, q, rfl, ha, hq, (show c5 + 10 < 1000000000 by omega), fun c6 hc6 => ⟨trivial, rfl⟩⟩
end K86

/-! ## K86E -/
set_option Elab.async false
set_option linter.all false
set_option autoImplicit false
set_option maxRecDepth 100000
set_option maxHeartbeats 1000000
namespace K86
open PySem L2 DL
/-! ### the defs keep their promises -/
section
variable {P : Program} {w : World} {K : PySem.W.Frag} {mg : Str → Option Value} {base : Heap}
theorem d_unk {f : Addr} {fd : FuncData} (A : At K mg "is_unknown" s_is_unknown ["term"] f fd) (m_str : mg "str" = none) (m_isinstance : mg "isinstance" = none) : FnD P w K mg base 1 "is_unknown" 1 gUnk :=
  A.fnD (w_is_unknown A.F m_str m_isinstance p_unk)
theorem d_size {f : Addr} {fd : FuncData} (A : At K mg "term_size" s_term_size ["term"] f fd) (hu : FnD P w K mg base 1 "is_unknown" 1 gUnk) (m_sum : mg "sum" = none) : ∀ n, FnD P w K mg base (n + 2) "term_size" 1 (gSize n)
  | 0 => A.fnD (w_term_size (g_term_size := gBad) A.F hu (A.fnD (fnOk_bad rfl fun _ _ _ _ h => h)) m_sum fun c as k kx _ h => b_size c as k kx h)
  | n + 1 => A.fnD (w_term_size A.F (hu.mono (by omega)) (d_size A hu m_sum n) m_sum fun c as k kx hl h => p_size n c as k kx hl h)
theorem d_places {f : Addr} {fd : FuncData} (A : At K mg "places_of" s_places_of ["term"] f fd) (hu : FnD P w K mg base 1 "is_unknown" 1 gUnk) (m_len : mg "len" = none) (m_range : mg "range" = none) : ∀ n, n ≤ 8 → FnD P w K mg base (n + 2) "places_of" 1 (gPlaces n)
  | 0, _ => A.fnD (w_places_of (g_places_of := gBad) A.F hu (A.fnD (fnOk_bad rfl fun _ _ _ _ h => h)) m_len m_range fun c as k kx _ h => b_places c as k kx h)
  | n + 1, hn => A.fnD (w_places_of A.F (hu.mono (by omega)) (d_places A hu m_len m_range n (by omega)) m_len m_range fun c as k kx hl h => p_places n (by omega) c as k kx hl h)
theorem d_unks {f : Addr} {fd : FuncData} (A : At K mg "unknowns_of" s_unknowns_of ["term"] f fd) (hu : FnD P w K mg base 1 "is_unknown" 1 gUnk) : ∀ n, n ≤ 8 → FnD P w K mg base (n + 2) "unknowns_of" 1 (gUnks n)
  | 0, _ => A.fnD (w_unknowns_of (g_unknowns_of := gBad) A.F hu (A.fnD (fnOk_bad rfl fun _ _ _ _ h => h)) fun c as k kx _ h => b_unks c as k kx h)
  | n + 1, hn => A.fnD (w_unknowns_of A.F (hu.mono (by omega)) (d_unks A hu n (by omega)) fun c as k kx hl h => p_unks n (by omega) c as k kx hl h)
theorem d_repl {C : Addr} {f : Addr} {fd : FuncData} (A : At K mg "replace_at" s_replace_at ["term", "place", "part"] f fd) (hu : FnD P w K mg base 1 "is_unknown" 1 gUnk) (m_len : mg "len" = none) (x : XcC K mg "BadPlace" C) : ∀ n, FnD P w K mg base (n + 2) "replace_at" 3 (gRepl C n)
  | 0 => A.fnD (w_replace_at (g_replace_at := gBad) A.F hu (A.fnD (fnOk_bad rfl fun _ _ _ _ h => h)) m_len x fun c as k kx _ h => b_repl c as k kx C h)
  | n + 1 => A.fnD (w_replace_at A.F (hu.mono (by omega)) (d_repl A hu m_len x n) m_len x fun c as k kx hl h => p_repl C n c as k kx hl h)
theorem d_lplaces {f : Addr} {fd : FuncData} (A : At K mg "_law_places" s_law_places ["term"] f fd) (m_str : mg "str" = none) (m_isinstance : mg "isinstance" = none) (m_len : mg "len" = none) (m_range : mg "range" = none) : ∀ n, n ≤ 8 → FnD P w K mg base (n + 2) "_law_places" 1 (gPlaces n)
  | 0, _ => A.fnD (w_law_places (g__law_places := gBad) A.F (A.fnD (fnOk_bad rfl fun _ _ _ _ h => h)) m_str m_isinstance m_len m_range fun c as k kx _ h => b_lplaces c as k kx h)
  | n + 1, hn => A.fnD (w_law_places A.F (d_lplaces A m_str m_isinstance m_len m_range n (by omega)) m_str m_isinstance m_len m_range fun c as k kx hl h => p_lplaces n (by omega) c as k kx hl h)
theorem d_put {f : Addr} {fd : FuncData} (A : At K mg "_law_put" s_law_put ["term", "place", "part"] f fd) (m_len : mg "len" = none) (m_list : mg "list" = none) (m_tuple : mg "tuple" = none) : ∀ n, FnD P w K mg base (n + 2) "_law_put" 3 (gPut n)
  | 0 => A.fnD (w_law_put (g__law_put := gBad) A.F (A.fnD (fnOk_bad rfl fun _ _ _ _ h => h)) m_len m_list m_tuple fun c as k kx _ h => b_put c as k kx h)
  | n + 1 => A.fnD (w_law_put A.F (d_put A m_len m_list m_tuple n) m_len m_list m_tuple fun c as k kx hl h => p_put n c as k kx hl h)
theorem k_term {f : Addr} {fd : FuncData} (A : At K mg "_law_term" s_law_term ["state", "depth"] f fd) (ht : FnD P w K mg base 1 "_law_take" 2 gTake) : ∀ n, FnOk P w K mg base (L2.CX P w) (n + 2) f fd ["state", "depth"] (spD K 2 (gTerm n))
  | 0 => w_law_term (g__law_term := gBad) A.F ht (A.fnD (fnOk_bad rfl fun _ _ _ _ h => h)) fun c as k kx _ h => b_term c as k kx h
  | n + 1 => w_law_term A.F (ht.mono (by omega)) (A.fnD (k_term A ht n)) fun c as k kx hl h => p_term (n + 1) c as k kx hl h
theorem d_termA {f : Addr} {fd : FuncData} (A : At K mg "_law_term" s_law_term ["state", "depth"] f fd) (ht : FnD P w K mg base 1 "_law_take" 2 gTake) : FnD P w K mg base 6 "_law_term" 2 gTermA := by
  refine A.fnD (fnOk_imp (fnOk_any (ι := { n : Nat // n ≤ 4 }) (G := fun i => gTerm i.1) rfl fun i => (k_term A ht i.1).mono (by have := i.2; omega)) fun c as k kx h => ?_)
  obtain ⟨n, hn, h⟩ := h
  exact ⟨⟨n, hn⟩, h⟩
/-- all of them, and the law -/
theorem law_ok {C C2 f0 f1 f2 f3 f4 f5 f6 f7 f8 f9 f10 f11 f12 f13 f14 f15 f16 f17 : Addr} {e0 e1 e2 e3 e4 e5 e6 e7 e8 e9 e10 e11 e12 e13 e14 e15 e16 e17 : FuncData}
    (a0 : At K mg "is_unknown" s_is_unknown ["term"] f0 e0) (a1 : At K mg "term_size" s_term_size ["term"] f1 e1) (a2 : At K mg "places_of" s_places_of ["term"] f2 e2) (a3 : At K mg "part_at" s_part_at ["term", "place"] f3 e3) (a4 : At K mg "replace_at" s_replace_at ["term", "place", "part"] f4 e4) (a5 : At K mg "parts_of" s_parts_of ["term"] f5 e5) (a6 : At K mg "unknowns_of" s_unknowns_of ["term"] f6 e6)
    (a7 : At K mg "_law_start" K86S.s_law_start ["script"] f7 e7) (a8 : At K mg "_law_take" s_law_take ["state", "many"] f8 e8) (a9 : At K mg "_law_term" s_law_term ["state", "depth"] f9 e9) (a10 : At K mg "_law_atom" s_law_atom ["state"] f10 e10) (a11 : At K mg "_law_places" s_law_places ["term"] f11 e11) (a12 : At K mg "_law_part" s_law_part ["term", "place"] f12 e12) (a13 : At K mg "_law_put" s_law_put ["term", "place", "part"] f13 e13)
    (a14 : At K mg "_law_refused" s_law_refused ["term", "place"] f14 e14) (a15 : At K mg "_law_listed" s_law_listed ["term"] f15 e15) (a16 : At K mg "_law_one" s_law_one ["state", "term", "part"] f16 e16) (a17 : At K mg "law" K86S.s_law ["script"] f17 e17)
    (x : XcC K mg "BadPlace" C) (x2 : XcC K mg "WorldOrPaperError" C2) (ex : PySem.W.exmOne K (.ref C) (.ref C2) = some true) (xc : ExcC K C)
    (m_len : mg "len" = none) (m_range : mg "range" = none) (m_str : mg "str" = none) (m_int : mg "int" = none) (m_bool : mg "bool" = none) (m_sum : mg "sum" = none) (m_abs : mg "abs" = none) (m_list : mg "list" = none) (m_tuple : mg "tuple" = none) (m_isi : mg "isinstance" = none) :
    FnOk P w K mg base (L2.CX P w) 20 f17 e17 ["script"] (spLaw K) := by
  have hu : FnD P w K mg base 1 "is_unknown" 1 gUnk := d_unk a0 m_str m_isi
  have hp : FnD P w K mg base 2 "part_at" 2 (gPart C) := a3.fnD (w_part_at a3.F hu m_len x (p_part C))
  have ht : FnD P w K mg base 1 "_law_take" 2 gTake := a8.fnD (w_law_take a8.F m_len m_int)
  have hlp : FnD P w K mg base 1 "_law_part" 2 gLPart := a12.fnD (w_law_part a12.F p_lpart)
  have hpl : FnD P w K mg base 15 "places_of" 1 (gPlaces 8) := (d_places a2 hu m_len m_range 8 (by omega)).mono (by omega)
  have hrp : FnD P w K mg base 15 "replace_at" 3 (gRepl C 8) := (d_repl a4 hu m_len x 8).mono (by omega)
  have hps : FnD P w K mg base 16 "parts_of" 1 (gParts 8) := a5.fnD (w_parts_of a5.F hpl (hp.mono (by omega)) (p_parts C 8 (by omega)))
  have hli : FnD P w K mg base 17 "_law_listed" 1 gListed := a15.fnD (w_law_listed a15.F ((d_lplaces a11 m_str m_isi m_len m_range 8 (by omega)).mono (by omega)) (hlp.mono (by omega)) ((d_size a1 hu m_sum 8).mono (by omega)) (hpl.mono (by omega)) hps ((d_unks a6 hu 8 (by omega)).mono (by omega)) m_isi m_str m_int m_bool m_len (p_listed C))
  have hre : FnD P w K mg base 17 "_law_refused" 2 (gRef 8) := (a14.fnD (w_law_refused a14.F (hp.mono (by omega)) hrp m_isi x x2 ex xc kit_self (p_ref C C2 8))).mono (by omega)
  have hon : FnD P w K mg base 18 "_law_one" 3 gOne := a16.fnD (w_law_one a16.F ((d_lplaces a11 m_str m_isi m_len m_range 5 (by omega)).mono (by omega)) (ht.mono (by omega)) (hp.mono (by omega)) (hlp.mono (by omega)) ((d_put a13 m_len m_list m_tuple 8).mono (by omega)) (hrp.mono (by omega)) hre hli m_len m_str m_isi (p_one C))
  have hte : FnD P w K mg base 6 "_law_term" 2 gTermA := d_termA a9 ht
  have hat : FnD P w K mg base 6 "_law_atom" 1 gAtom := a10.fnD (w_law_atom a10.F (ht.mono (by omega)) (a9.fnD (k_term a9 ht 3)) m_range m_tuple p_atom)
  have hst : FnD P w K mg base 1 "_law_start" 1 gStart := (a7.fnD (K86S.w_law_start a7.F m_len m_range m_abs m_int)).imp fun c as k kx h => start_ok h
  exact (K86S.w_law a17.F (hte.mono (by omega : 6 ≤ 18)) hon (hat.mono (by omega)) (hst.mono (by omega)) p_law).mono (by omega)
end
end K86

/-! ## K86Z -/
set_option Elab.async false
set_option linter.all false
set_option autoImplicit false
set_option maxRecDepth 100000
set_option maxHeartbeats 0
namespace K86Z
open PySem L2 DL
open K86 (s_is_unknown s_term_size s_places_of s_part_at s_replace_at s_parts_of s_unknowns_of s_law_take s_law_term s_law_atom s_law_places s_law_part s_law_put s_law_refused s_law_listed s_law_one)
/-! ### the head: facts by names, the run -/
def fn : List He.DefD := [dfn "is_unknown" s_is_unknown, dfn "term_size" s_term_size, dfn "places_of" s_places_of, dfn "part_at" s_part_at, dfn "replace_at" s_replace_at, dfn "parts_of" s_parts_of, dfn "unknowns_of" s_unknowns_of, dfn "_law_start" K86S.s_law_start, dfn "_law_take" s_law_take, dfn "_law_term" s_law_term, dfn "_law_atom" s_law_atom, dfn "_law_places" s_law_places, dfn "_law_part" s_law_part, dfn "_law_put" s_law_put, dfn "_law_refused" s_law_refused, dfn "_law_listed" s_law_listed, dfn "_law_one" s_law_one, dfn "law" K86S.s_law]
def glos : List Str := ["is_unknown", "term_size", "places_of", "part_at", "replace_at", "parts_of", "unknowns_of", "_law_start", "_law_take", "_law_term", "_law_atom", "_law_places", "_law_part", "_law_put", "_law_refused", "_law_listed", "_law_one", "law", "BadPlace", "WorldOrPaperError"]
def frees : List Str := ["len", "range", "str", "int", "bool", "sum", "abs", "list", "tuple", "isinstance"]
def fa : List He.Fa := glos.map He.Fa.glo ++ (frees.map He.Fa.free ++ [.exc "BadPlace", .exc "WorldOrPaperError", .exm "BadPlace" "WorldOrPaperError" true])
def ex (K : PySem.W.Frag) : Bool := excB K "BadPlace"
abbrev R : PySem.W.OpenRow := PySem.W.OpenLaw.row PySem.Challenge.rw_kingsandcourts_k86_parts_and_places
abbrev hk : PySem.W.Hook := He.hookX 5 fa fn [] [] ex
def ob (s : PySem.W.SharedT) : He.AlX := He.obsX 5 fa fn [] [] ex (HandSHeadRun.getT s)
theorem ob_eq (s : PySem.W.SharedT) : ob s = hk.obs s.abs := He.obsX_eq (HandSHeadRun.getT_eq s)
def loose : List Str := ["__name__", "WorldOrPaperError", "BadPlace", "is_unknown", "term_size", "places_of", "part_at", "replace_at", "parts_of", "unknowns_of", "_law_start", "_law_take", "_law_term", "_law_atom", "_law_places", "_law_part", "_law_put", "_law_refused", "_law_listed", "_law_one"]
theorem run (w : World) : HandSHeadRun.RunEq R (PySem.W.view R.prog [22]) hk ob 4000 loose w := by
  intro os
  kernel_rfl
theorem facts {P : Program} {w : World} {K : PySem.W.Frag} {h : Heap} {mg : Str → Option Value} {f : Addr} (X : K.In h) (G : h.Ns mainGlobals mg) (hfa : mg ("law" : Str) = some (.ref f)) (c : He.SaysD fa fn K) (ce : ex K = true) :
    ∃ fd : FuncData, (∀ (s : Shared) (v : Value), BindsTo s fd ⟨[v], []⟩ [("script", v)]) ∧ ∀ base : Heap, K.In base → base.Ns mainGlobals mg → FnOk P w K mg base (L2.CX P w) 20 f fd ["script"] (spLaw K) := by
  have gl : ∀ x ∈ glos, He.Fa.glo x ∈ fa := fun x hx => List.mem_append_left _ (List.mem_map_of_mem hx)
  have fr : ∀ x ∈ frees, mg x = none := fun x hx => He.free_ok X G (c.facts (List.mem_append_right _ (List.mem_append_left _ (List.mem_map_of_mem hx))))
  have mo : ∀ f ∈ [He.Fa.exc "BadPlace", .exc "WorldOrPaperError", .exm "BadPlace" "WorldOrPaperError" true], f ∈ fa := fun f hf => List.mem_append_right _ (List.mem_append_right _ hf)
  obtain ⟨e0, a0, b0⟩ := at_of (x := "is_unknown") (st := s_is_unknown) ["term"] X G c (List.mem_of_getElem? (i := 0) rfl) (gl _ (by decide)) fun _ _ _ _ _ _ us hl => match us, hl with | [_], _ => rfl
  obtain ⟨e1, a1, b1⟩ := at_of (x := "term_size") (st := s_term_size) ["term"] X G c (List.mem_of_getElem? (i := 1) rfl) (gl _ (by decide)) fun _ _ _ _ _ _ us hl => match us, hl with | [_], _ => rfl
  obtain ⟨e2, a2, b2⟩ := at_of (x := "places_of") (st := s_places_of) ["term"] X G c (List.mem_of_getElem? (i := 2) rfl) (gl _ (by decide)) fun _ _ _ _ _ _ us hl => match us, hl with | [_], _ => rfl
  obtain ⟨e3, a3, b3⟩ := at_of (x := "part_at") (st := s_part_at) ["term", "place"] X G c (List.mem_of_getElem? (i := 3) rfl) (gl _ (by decide)) fun _ _ _ _ _ _ us hl => match us, hl with | [_, _], _ => rfl
  obtain ⟨e4, a4, b4⟩ := at_of (x := "replace_at") (st := s_replace_at) ["term", "place", "part"] X G c (List.mem_of_getElem? (i := 4) rfl) (gl _ (by decide)) fun _ _ _ _ _ _ us hl => match us, hl with | [_, _, _], _ => rfl
  obtain ⟨e5, a5, b5⟩ := at_of (x := "parts_of") (st := s_parts_of) ["term"] X G c (List.mem_of_getElem? (i := 5) rfl) (gl _ (by decide)) fun _ _ _ _ _ _ us hl => match us, hl with | [_], _ => rfl
  obtain ⟨e6, a6, b6⟩ := at_of (x := "unknowns_of") (st := s_unknowns_of) ["term"] X G c (List.mem_of_getElem? (i := 6) rfl) (gl _ (by decide)) fun _ _ _ _ _ _ us hl => match us, hl with | [_], _ => rfl
  obtain ⟨e7, a7, b7⟩ := at_of (x := "_law_start") (st := K86S.s_law_start) ["script"] X G c (List.mem_of_getElem? (i := 7) rfl) (gl _ (by decide)) fun _ _ _ _ _ _ us hl => match us, hl with | [_], _ => rfl
  obtain ⟨e8, a8, b8⟩ := at_of (x := "_law_take") (st := s_law_take) ["state", "many"] X G c (List.mem_of_getElem? (i := 8) rfl) (gl _ (by decide)) fun _ _ _ _ _ _ us hl => match us, hl with | [_, _], _ => rfl
  obtain ⟨e9, a9, b9⟩ := at_of (x := "_law_term") (st := s_law_term) ["state", "depth"] X G c (List.mem_of_getElem? (i := 9) rfl) (gl _ (by decide)) fun _ _ _ _ _ _ us hl => match us, hl with | [_, _], _ => rfl
  obtain ⟨e10, a10, b10⟩ := at_of (x := "_law_atom") (st := s_law_atom) ["state"] X G c (List.mem_of_getElem? (i := 10) rfl) (gl _ (by decide)) fun _ _ _ _ _ _ us hl => match us, hl with | [_], _ => rfl
  obtain ⟨e11, a11, b11⟩ := at_of (x := "_law_places") (st := s_law_places) ["term"] X G c (List.mem_of_getElem? (i := 11) rfl) (gl _ (by decide)) fun _ _ _ _ _ _ us hl => match us, hl with | [_], _ => rfl
  obtain ⟨e12, a12, b12⟩ := at_of (x := "_law_part") (st := s_law_part) ["term", "place"] X G c (List.mem_of_getElem? (i := 12) rfl) (gl _ (by decide)) fun _ _ _ _ _ _ us hl => match us, hl with | [_, _], _ => rfl
  obtain ⟨e13, a13, b13⟩ := at_of (x := "_law_put") (st := s_law_put) ["term", "place", "part"] X G c (List.mem_of_getElem? (i := 13) rfl) (gl _ (by decide)) fun _ _ _ _ _ _ us hl => match us, hl with | [_, _, _], _ => rfl
  obtain ⟨e14, a14, b14⟩ := at_of (x := "_law_refused") (st := s_law_refused) ["term", "place"] X G c (List.mem_of_getElem? (i := 14) rfl) (gl _ (by decide)) fun _ _ _ _ _ _ us hl => match us, hl with | [_, _], _ => rfl
  obtain ⟨e15, a15, b15⟩ := at_of (x := "_law_listed") (st := s_law_listed) ["term"] X G c (List.mem_of_getElem? (i := 15) rfl) (gl _ (by decide)) fun _ _ _ _ _ _ us hl => match us, hl with | [_], _ => rfl
  obtain ⟨e16, a16, b16⟩ := at_of (x := "_law_one") (st := s_law_one) ["state", "term", "part"] X G c (List.mem_of_getElem? (i := 16) rfl) (gl _ (by decide)) fun _ _ _ _ _ _ us hl => match us, hl with | [_, _, _], _ => rfl
  obtain ⟨e17, a17, b17⟩ := at_of (x := "law") (st := K86S.s_law) ["script"] X G c (List.mem_of_getElem? (i := 17) rfl) (gl _ (by decide)) fun _ _ _ _ _ _ us hl => match us, hl with | [_], _ => rfl
  have x1 : XcC K mg "BadPlace" (He.ga K "BadPlace") := xc_of X G c (mo _ (.head _)) (gl _ (by decide))
  have x2 : XcC K mg "WorldOrPaperError" (He.ga K "WorldOrPaperError") := xc_of X G c (mo _ (.tail _ (.head _))) (gl _ (by decide))
  have xm := He.exm_ok (c.facts (mo (.exm "BadPlace" "WorldOrPaperError" true) (.tail _ (.tail _ (.head _)))))
  have e := hfa.symm.trans a17.g
  cases e
  exact ⟨e17, fun s v => b17 s [v] rfl, fun base _ _ => K86.law_ok a0 a1 a2 a3 a4 a5 a6 a7 a8 a9 a10 a11 a12 a13 a14 a15 a16 a17 x1 x2 xm (excB_ok ce) (fr _ (by decide)) (fr _ (by decide)) (fr _ (by decide)) (fr _ (by decide)) (fr _ (by decide)) (fr _ (by decide)) (fr _ (by decide)) (fr _ (by decide)) (fr _ (by decide)) (fr _ (by decide))⟩
end K86Z
open PySem PySem.W PySem.Calls PyProof.Rows
theorem PySem.Challenge.cw_kingsandcourts_k86_parts_and_places_holds : PySem.Challenge.rw_kingsandcourts_k86_parts_and_places.Holds := by
  w_on; o_law
  refine HandSHeadRun.head_any (r := OpenLaw.row PySem.Challenge.rw_kingsandcourts_k86_parts_and_places) (q := view (OpenLaw.row PySem.Challenge.rw_kingsandcourts_k86_parts_and_places).prog [22]) (H := K86Z.hk) (ob := K86Z.ob) (M := 4000) (loose := K86Z.loose) (d := HandSHeadRun.topDef (OpenLaw.row PySem.Challenge.rw_kingsandcourts_k86_parts_and_places).prog 22) (kwd := []) K86Z.ob_eq
    (by kernel_rfl) (fun s => by kernel_rfl) K86Z.run (by kernel_rfl) (by kernel_rfl) (by kernel_rfl) (by rfl) (by first | assumption | decide +kernel) (by decide +kernel) ⟨rfl, rfl, rfl, rfl, rfl, by decide +kernel⟩ ?hw ?hc
  case hw => w_witness2
  case hc =>
    refine DL.law_end (l := PySem.Challenge.rw_kingsandcourts_k86_parts_and_places) (k := 20) rfl (by kernel_rfl) ⟨rfl, by decide, by decide⟩ ?F
    intro w mg fa h Y G hmg0
    obtain ⟨K, KX, c⟩ := Y
    have hmg : mg ("law" : PySem.Str) = some (.ref fa) := by
      have e : (HandSHeadRun.topDef (OpenLaw.row PySem.Challenge.rw_kingsandcourts_k86_parts_and_places).prog 22).name = ("law" : PySem.Str) := by kernel_rfl
      rw [← e]
      exact hmg0
    obtain ⟨fd, hb, hF⟩ := K86Z.facts (P := (PySem.Challenge.rw_kingsandcourts_k86_parts_and_places).prog) (w := w) KX G hmg c.t.d c.more
    exact ⟨K, fd, KX, hb, hF⟩

