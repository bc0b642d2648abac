import PyProof.Rows.All
import HandS.ForMost
import HandS.Exc
import HandS.ExcOwn
import HandS.WordsExc
import HandS.Flow
import HandS.Style
import HandS.TupAny
import HandS.TupMul
import HandS.Wide
import HandS.WideBits
import HandS.Gcd
import HandS.IsInst
import HandS.ExcIs
import HandS.CallSlots
import HandS.Zip
import HandS.Lambda
import PyProof.ListStr
import HandS.Deep
import HandS.Conv
import KE.SortData
import KE.GoesNew
import KE.GoesEnum
import PyProof.EnumMake
import KE.KRevSl
import HandS.Defaults
import HandS.Head0
import HandS.Head1
import HandS.Head2
import HandS.Head3
import HandS.HeadEnd
import HandS.HeadHook1
import HandS.HeadHook2
import HandS.HeadHook3
import HandS.HeadHook4
import HandS.HeadWalk
import HandS.Dict
import PySem.Challenge.RW_taughtloss_k90_lines_and_what_they_choos
import PyProof.ExcBaseAll.ValueError
set_option Elab.async false
set_option linter.all false
set_option autoImplicit false
set_option maxRecDepth 100000
set_option exponentiation.threshold 100000
-- text TlA
section
set_option maxHeartbeats 4000000
set_option autoImplicit true
namespace TL
open PySem PySem.Spec L2
open PyProof.Rows hiding St

/-! ### data -/
/-- Python data without addresses: lists that never change any more are told by what they hold -/
inductive D where
  | non | bl (b : Bool) | int (i : Int) | str (x : Str) | tup (xs : List D) | lst (xs : List D)
  | dnil | scr (ns : List Int) | ptr (a : Addr) | exc (c : Str)
  deriving Inhabited

/-- the law's draws: an object that all drawing defs change -/
structure Drw where
  (a ag ac : Addr)
  (great cells : List Int)
  (rest turn : Int)
abbrev G := Option Drw
/-- the addresses that the draws own -/
def Mg (g : G) (b : Addr) : Prop := ∃ t, g = some t ∧ (b = t.a ∨ b = t.ag ∨ b = t.ac)
def GOk (H : Hp) : G → Prop
  | none => True
  | some t => H t.a = some (.dK [(.inr "great", .ref t.ag), (.inr "cells", .ref t.ac), (.inr "rest", .int t.rest), (.inr "turn", .int t.turn)]) ∧
      H t.ag = some (.lst (t.great.map V.int)) ∧ H t.ac = some (.lst (t.cells.map V.int)) ∧ t.ag ≠ t.ac
/-- an exception's object that was caught, of the class at C -/
def ExcO (C e : Addr) : HO := .ext fun h => ∃ (oe : Obj) (vs : Array Value), h.get? e = some oe ∧ Zc (.ref C) none oe ∧ oe.data = .fields vs

abbrev Fz := Addr → Prop
/-- what a walk is given once and for all -/
structure Wd where
  K : PySem.W.Frag
  mg : Str → Option Value
  T : List (Addr × Str)

mutual
/-- the value v is the data d: lists stand frozen (F) -/
inductive Rep (W : Wd) (F : Fz) (H : Hp) : V → D → Prop
  | non : Rep W F H .non .non
  | bl (b : Bool) : Rep W F H (.bl b) (.bl b)
  | int (i : Int) : Rep W F H (.int i) (.int i)
  | str (x : Str) : Rep W F H (.str x) (.str x)
  | tup {a : Addr} {vs : List V} {ds : List D} : SqT W.K H a vs → ds.length ≤ sizeLine → RepL W F H vs ds → Rep W F H (.ref a) (.tup ds)
  | lst {a : Addr} {vs : List V} {ds : List D} : F a → H a = some (.lst vs) → ds.length ≤ sizeLine → RepL W F H vs ds → Rep W F H (.ref a) (.lst ds)
  | dnil {a : Addr} : F a → H a = some (.dK []) → Rep W F H (.ref a) .dnil
  | scr {a : Addr} {ns : List Int} : (F a ∧ Rd H a (.lst (ns.map V.int))) ∨ SqL W.K (fun _ => none) a (ns.map V.int) → ns.length ≤ sizeLine → Rep W F H (.ref a) (.scr ns)
  | ptr (a : Addr) : Rep W F H (.ref a) (.ptr a)
  | exc {e C : Addr} {c : Str} : F e → H e = some (ExcO C e) → W.mg c = some (.ref C) → Rep W F H (.ref e) (.exc c)
inductive RepL (W : Wd) (F : Fz) (H : Hp) : List V → List D → Prop
  | nil : RepL W F H [] []
  | cons {v : V} {vs : List V} {d : D} {ds : List D} : Rep W F H v d → RepL W F H vs ds → RepL W F H (v :: vs) (d :: ds)
end

section
variable {W : Wd} {F F' F1 F2 : Fz} {H H' H1 H2 : Hp} {g g' g1 g2 : G}

/-- the state is sound: what is frozen stands and is nobody's -/
structure Wf (W : Wd) (F : Fz) (g : G) (H : Hp) : Prop where
  al : ∀ b, F b → ∃ o, H b = some o
  nm : ∀ b, F b → ¬ Mg g b
  ok : GOk H g
  tb : LamX.Tabs W.T H
theorem GOk.at_ (h : GOk H g) {b : Addr} (m : Mg g b) : (∃ kvs, H b = some (.dK kvs)) ∨ ∃ xs, H b = some (.lst xs) := by
  obtain ⟨t, rfl, e⟩ := m
  obtain ⟨h1, h2, h3, _⟩ := h
  rcases e with rfl | rfl | rfl
  · exact .inl ⟨_, h1⟩
  · exact .inr ⟨_, h2⟩
  · exact .inr ⟨_, h3⟩
theorem GOk.al (h : GOk H g) {b : Addr} (m : Mg g b) : ∃ o, H b = some o := by
  rcases h.at_ m with ⟨_, e⟩ | ⟨_, e⟩ <;> exact ⟨_, e⟩
theorem GOk.ntup (h : GOk H g) {b : Addr} {xs : List V} (e : H b = some (.tup xs)) : ¬ Mg g b := fun m => by
  rcases h.at_ m with ⟨_, z⟩ | ⟨_, z⟩ <;> rw [z] at e <;> cases e
theorem GOk.nfrz (h : GOk H g) {b : Addr} {o : Obj} {u : HO} (e : H b = some (.frz o u)) : ¬ Mg g b := fun m => by
  rcases h.at_ m with ⟨_, z⟩ | ⟨_, z⟩ <;> rw [z] at e <;> cases e
theorem GOk.nnew (h : GOk H g) {b : Addr} (e : H b = none) : ¬ Mg g b := fun m => by
  obtain ⟨_, z⟩ := h.al m
  rw [z] at e; cases e

/-- from (F, g, H) to (F', g', H'): only the draws, tables of code and new objects may be otherwise -/
structure Ext (W : Wd) (F : Fz) (g : G) (H : Hp) (F' : Fz) (g' : G) (H' : Hp) : Prop where
  kp : ∀ b o, H b = some o → ¬ Mg g b → (∀ ps, o ≠ .tbl ps) → H' b = some o
  fs : ∀ b, F b → F' b
  fn : ∀ b, F' b → F b ∨ H b = none
  mn : ∀ b, Mg g' b → Mg g b ∨ H b = none
  th : ∀ b o, H b = some o → ∃ o', H' b = some o'
  wf : Wf W F' g' H'
theorem Ext.refl (w : Wf W F g H) : Ext W F g H F g H := ⟨fun _ _ e _ _ => e, fun _ h => h, fun _ h => .inl h, fun _ h => .inl h, fun _ o e => ⟨o, e⟩, w⟩
theorem Ext.trans {H2 : Hp} (a : Ext W F g H F1 g1 H1) (b : Ext W F1 g1 H1 F2 g2 H2) : Ext W F g H F2 g2 H2 where
  kp := fun c o e n t => b.kp c o (a.kp c o e n t) (fun m => by
    rcases a.mn c m with z | z
    · exact n z
    · rw [z] at e; cases e) t
  fs := fun c h => b.fs c (a.fs c h)
  fn := fun c h => by
    rcases b.fn c h with z | z
    · exact a.fn c z
    · cases e : H c with
      | none => exact .inr rfl
      | some o =>
        obtain ⟨o', e'⟩ := a.th c o e
        rw [z] at e'; cases e'
  mn := fun c h => by
    rcases b.mn c h with z | z
    · exact a.mn c z
    · cases e : H c with
      | none => exact .inr rfl
      | some o =>
        obtain ⟨o', e'⟩ := a.th c o e
        rw [z] at e'; cases e'
  th := fun c o e => by
    obtain ⟨o1, e1⟩ := a.th c o e
    exact b.th c o1 e1
  wf := b.wf
theorem Ext.seqT (x : Ext W F g H F' g' H') (w : Wf W F g H) {a : Addr} {vs : List V} (h : SqT W.K H a vs) : SqT W.K H' a vs := by
  rcases h with (h | ⟨o, h⟩) | h
  · exact .inl (.inl (x.kp _ _ h (w.ok.ntup h) (fun _ z => by cases z)))
  · exact .inl (.inr ⟨o, x.kp _ _ h (w.ok.nfrz h) (fun _ z => by cases z)⟩)
  · exact .inr h
theorem Ext.frz (x : Ext W F g H F' g' H') (w : Wf W F g H) {a : Addr} {o : HO} (f : F a) (h : H a = some o) (t : ∀ ps, o ≠ .tbl ps) : H' a = some o := x.kp _ _ h (w.nm _ f) t
mutual
theorem Rep.ext (x : Ext W F g H F' g' H') (w : Wf W F g H) : ∀ {v : V} {d : D}, Rep W F H v d → Rep W F' H' v d
  | _, _, .non => .non
  | _, _, .bl b => .bl b
  | _, _, .int i => .int i
  | _, _, .str s => .str s
  | _, _, .tup h z r => .tup (x.seqT w h) z (RepL.ext x w r)
  | _, _, .lst f h z r => .lst (x.fs _ f) (x.frz w f h fun _ z => by cases z) z (RepL.ext x w r)
  | _, _, .dnil f h => .dnil (x.fs _ f) (x.frz w f h fun _ z => by cases z)
  | _, _, .scr h z => .scr (by
      rcases h with ⟨f, h | ⟨o, h⟩⟩ | h
      · exact .inl ⟨x.fs _ f, .inl (x.frz w f h fun _ z => by cases z)⟩
      · exact .inl ⟨x.fs _ f, .inr ⟨o, x.frz w f h fun _ z => by cases z⟩⟩
      · exact .inr h) z
  | _, _, .ptr a => .ptr a
  | _, _, .exc f h m => .exc (x.fs _ f) (x.frz w f h fun _ z => by unfold ExcO at z; cases z) m
theorem RepL.ext (x : Ext W F g H F' g' H') (w : Wf W F g H) : ∀ {vs : List V} {ds : List D}, RepL W F H vs ds → RepL W F' H' vs ds
  | _, _, .nil => .nil
  | _, _, .cons r t => .cons (Rep.ext x w r) (RepL.ext x w t)
end
/-- what is frozen, the tuples and the locked ones stay -/
structure Stay (W : Wd) (F : Fz) (H : Hp) (F1 : Fz) (g1 : G) (H1 : Hp) : Prop where
  fz : ∀ b o, F b → H b = some o → (∀ ps, o ≠ .tbl ps) → H1 b = some o
  tp : ∀ b xs, H b = some (.tup xs) → H1 b = some (.tup xs)
  fr : ∀ b o u, H b = some (.frz o u) → H1 b = some (.frz o u)
  fs : ∀ b, F b → F1 b
  wf : Wf W F1 g1 H1
theorem Ext.stay (x : Ext W F g H F' g' H') (w : Wf W F g H) : Stay W F H F' g' H' :=
  ⟨fun b o f e t => x.kp b o e (w.nm b f) t, fun b xs e => x.kp b _ e (w.ok.ntup e) (fun _ z => by cases z), fun b o u e => x.kp b _ e (w.ok.nfrz e) (fun _ z => by cases z), x.fs, x.wf⟩
theorem Stay.trans {g0 : G} (a : Stay W F H F1 g1 H1) (b : Stay W F1 H1 F2 g2 H2) : Stay W F H F2 g2 H2 :=
  ⟨fun c o f e t => b.fz c o (a.fs c f) (a.fz c o f e t) t, fun c xs e => b.tp c xs (a.tp c xs e), fun c o u e => b.fr c o u (a.fr c o u e), fun c f => b.fs c (a.fs c f), b.wf⟩
theorem Stay.seqT (x : Stay W F H F' g' H') {a : Addr} {vs : List V} (h : SqT W.K H a vs) : SqT W.K H' a vs := by
  rcases h with (h | ⟨o, h⟩) | h
  · exact .inl (.inl (x.tp _ _ h))
  · exact .inl (.inr ⟨o, x.fr _ _ _ h⟩)
  · exact .inr h
mutual
theorem Rep.stay (x : Stay W F H F' g' H') : ∀ {v : V} {d : D}, Rep W F H v d → Rep W F' H' v d
  | _, _, .non => .non
  | _, _, .bl b => .bl b
  | _, _, .int i => .int i
  | _, _, .str s => .str s
  | _, _, .tup h z r => .tup (x.seqT h) z (RepL.stay x r)
  | _, _, .lst f h z r => .lst (x.fs _ f) (x.fz _ _ f h fun _ z => by cases z) z (RepL.stay x r)
  | _, _, .dnil f h => .dnil (x.fs _ f) (x.fz _ _ f h fun _ z => by cases z)
  | _, _, .scr h z => .scr (by
      rcases h with ⟨f, h | ⟨o, h⟩⟩ | h
      · exact .inl ⟨x.fs _ f, .inl (x.fz _ _ f h fun _ z => by cases z)⟩
      · exact .inl ⟨x.fs _ f, .inr ⟨o, x.fz _ _ f h fun _ z => by cases z⟩⟩
      · exact .inr h) z
  | _, _, .ptr a => .ptr a
  | _, _, .exc f h m => .exc (x.fs _ f) (x.fz _ _ f h fun _ z => by unfold ExcO at z; cases z) m
theorem RepL.stay (x : Stay W F H F' g' H') : ∀ {vs : List V} {ds : List D}, RepL W F H vs ds → RepL W F' H' vs ds
  | _, _, .nil => .nil
  | _, _, .cons r t => .cons (Rep.stay x r) (RepL.stay x t)
end
/-- fewer or more frozen ones, the same heap -/
theorem RepL.length : ∀ {vs : List V} {ds : List D}, RepL W F H vs ds → vs.length = ds.length
  | _, _, .nil => rfl
  | _, _, .cons _ t => by rw [List.length_cons, List.length_cons, RepL.length t]
theorem RepL.get : ∀ {vs : List V} {ds : List D} {i : Nat} {d : D}, RepL W F H vs ds → ds[i]? = some d → ∃ v, vs[i]? = some v ∧ Rep W F H v d
  | _, _, i, _, .nil, e => by simp at e
  | _, _, 0, _, .cons r _, e => by simp at e; subst e; exact ⟨_, rfl, r⟩
  | _, _, i + 1, _, .cons _ t, e => by
    obtain ⟨v, h1, h2⟩ := RepL.get (i := i) t (by simpa using e)
    exact ⟨v, by simpa using h1, h2⟩
theorem RepL.getV : ∀ {vs : List V} {ds : List D} {i : Nat} {v : V}, RepL W F H vs ds → vs[i]? = some v → ∃ d, ds[i]? = some d ∧ Rep W F H v d
  | _, _, i, _, .nil, e => by simp at e
  | _, _, 0, _, .cons r _, e => by simp at e; subst e; exact ⟨_, rfl, r⟩
  | _, _, i + 1, _, .cons _ t, e => by
    obtain ⟨v, h1, h2⟩ := RepL.getV (i := i) t (by simpa using e)
    exact ⟨v, by simpa using h1, h2⟩
theorem RepL.append : ∀ {vs ws : List V} {ds es : List D}, RepL W F H vs ds → RepL W F H ws es → RepL W F H (vs ++ ws) (ds ++ es)
  | _, _, _, _, .nil, s => s
  | _, _, _, _, .cons r t, s => .cons r (RepL.append t s)
theorem RepL.take : ∀ {vs : List V} {ds : List D} (n : Nat), RepL W F H vs ds → RepL W F H (vs.take n) (ds.take n)
  | _, _, 0, _ => .nil
  | _, _, _ + 1, .nil => .nil
  | _, _, n + 1, .cons r t => .cons r (RepL.take n t)
theorem RepL.drop : ∀ {vs : List V} {ds : List D} (n : Nat), RepL W F H vs ds → RepL W F H (vs.drop n) (ds.drop n)
  | _, _, 0, r => r
  | _, _, _ + 1, .nil => .nil
  | _, _, n + 1, .cons _ t => RepL.drop n t
theorem RepL.reverse : ∀ {vs : List V} {ds : List D}, RepL W F H vs ds → RepL W F H vs.reverse ds.reverse
  | _, _, .nil => .nil
  | _, _, .cons r t => by rw [List.reverse_cons, List.reverse_cons]; exact (RepL.reverse t).append (.cons r .nil)
theorem RepL.set {v : V} {d : D} (r : Rep W F H v d) : ∀ {vs : List V} {ds : List D} (i : Nat), RepL W F H vs ds → RepL W F H (vs.set i v) (ds.set i d)
  | _, _, _, .nil => .nil
  | _, _, 0, .cons _ t => .cons r t
  | _, _, i + 1, .cons q t => .cons q (RepL.set r i t)
theorem RepL.eraseIdx : ∀ {vs : List V} {ds : List D} (i : Nat), RepL W F H vs ds → RepL W F H (vs.eraseIdx i) (ds.eraseIdx i)
  | _, _, _, .nil => .nil
  | _, _, 0, .cons _ t => t
  | _, _, i + 1, .cons r t => .cons r (RepL.eraseIdx i t)
theorem RepL.ints : ∀ {vs : List V} {ns : List Int}, RepL W F H vs (ns.map D.int) → vs = ns.map V.int
  | _, [], .nil => rfl
  | _, _ :: _, .cons r t => by cases r; rw [RepL.ints t, List.map_cons]
theorem RepL.of_ints : ∀ ns : List Int, RepL W F H (ns.map V.int) (ns.map D.int)
  | [] => .nil
  | n :: ns => .cons (.int n) (RepL.of_ints ns)
theorem RepL.strs : ∀ {vs : List V} {xs : List Str}, RepL W F H vs (xs.map D.str) → vs = xs.map V.str
  | _, [], .nil => rfl
  | _, _ :: _, .cons r t => by cases r; rw [RepL.strs t, List.map_cons]
theorem RepL.of_strs : ∀ ns : List Str, RepL W F H (ns.map V.str) (ns.map D.str)
  | [] => .nil
  | n :: ns => .cons (.str n) (RepL.of_strs ns)
theorem RepL.bls : ∀ {vs : List V} {xs : List Bool}, RepL W F H vs (xs.map D.bl) → vs = xs.map V.bl
  | _, [], .nil => rfl
  | _, _ :: _, .cons r t => by cases r; rw [RepL.bls t, List.map_cons]


mutual
/-- what is frozen may be said of fewer: of those that stand -/
theorem Rep.less (h : ∀ b o, F b → H b = some o → F' b) : ∀ {v : V} {d : D}, Rep W F H v d → Rep W F' H v d
  | _, _, .non => .non
  | _, _, .bl b => .bl b
  | _, _, .int i => .int i
  | _, _, .str s => .str s
  | _, _, .tup e z r => .tup e z (RepL.less h r)
  | _, _, .lst f e z r => .lst (h _ _ f e) e z (RepL.less h r)
  | _, _, .dnil f e => .dnil (h _ _ f e) e
  | _, _, .scr e z => .scr (by
      rcases e with ⟨f, e | ⟨o, e⟩⟩ | e
      · exact .inl ⟨h _ _ f e, .inl e⟩
      · exact .inl ⟨h _ _ f e, .inr ⟨o, e⟩⟩
      · exact .inr e) z
  | _, _, .ptr a => .ptr a
  | _, _, .exc f e m => .exc (h _ _ f e) e m
theorem RepL.less (h : ∀ b o, F b → H b = some o → F' b) : ∀ {vs : List V} {ds : List D}, RepL W F H vs ds → RepL W F' H vs ds
  | _, _, .nil => .nil
  | _, _, .cons r t => .cons (Rep.less h r) (RepL.less h t)
end
mutual
/-- no list within -/
def nl : D → Bool
  | .non => true
  | .bl _ => true
  | .int _ => true
  | .str _ => true
  | .tup xs => nlL xs
  | .ptr _ => true
  | _ => false
def nlL : List D → Bool
  | [] => true
  | x :: xs => nl x && nlL xs
end
mutual
theorem Rep.nl : ∀ {v : V} {d : D}, Rep W F H v d → nl d = true → Rep W F' H v d
  | _, _, .non, _ => .non
  | _, _, .bl b, _ => .bl b
  | _, _, .int i, _ => .int i
  | _, _, .str s, _ => .str s
  | _, _, .tup e z r, h => .tup e z (RepL.nl r h)
  | _, _, .lst .., h => by cases h
  | _, _, .dnil .., h => by cases h
  | _, _, .scr .., h => by cases h
  | _, _, .ptr a, _ => .ptr a
  | _, _, .exc .., h => by cases h
theorem RepL.nl : ∀ {vs : List V} {ds : List D}, RepL W F H vs ds → nlL ds = true → RepL W F' H vs ds
  | _, _, .nil, _ => .nil
  | _, _, .cons r t, h => by
    have h' := (Bool.and_eq_true_iff.mp (show (TL.nl _ && nlL _) = true from h))
    exact .cons (Rep.nl r h'.1) (RepL.nl t h'.2)
end

/-! ### new objects -/
/-- a new object that is not said to be frozen -/
theorem Ext.newT (w : Wf W F g H) {p : Addr} {o : HO} (hp : H p = none) : Ext W F g H F g (upd H p o) where
  kp := fun b u e _ _ => by rw [upd_ne (ne_of_none e hp)]; exact e
  fs := fun _ h => h
  fn := fun _ h => .inl h
  mn := fun _ h => .inl h
  th := fun b u e => ⟨u, by rw [upd_ne (ne_of_none e hp)]; exact e⟩
  wf := ⟨fun b f => by
      obtain ⟨u, e⟩ := w.al b f
      exact ⟨u, by rw [upd_ne (ne_of_none e hp)]; exact e⟩, w.nm, by
      cases g with
      | none => trivial
      | some t =>
        obtain ⟨h1, h2, h3, h4⟩ := w.ok
        exact ⟨by rw [upd_ne (ne_of_none h1 hp)]; exact h1, by rw [upd_ne (ne_of_none h2 hp)]; exact h2, by rw [upd_ne (ne_of_none h3 hp)]; exact h3, h4⟩,
      w.tb.ext fun b u e => by rw [upd_ne (ne_of_none e hp)]; exact e⟩
abbrev plusF (F : Fz) (p : Addr) : Fz := fun b => F b ∨ b = p
/-- a new object that is frozen -/
theorem Ext.newF (w : Wf W F g H) {p : Addr} {o : HO} (hp : H p = none) : Ext W F g H (plusF F p) g (upd H p o) where
  kp := fun b u e _ _ => by rw [upd_ne (ne_of_none e hp)]; exact e
  fs := fun _ h => .inl h
  fn := fun b h => h.elim .inl fun e => .inr (by rw [e]; exact hp)
  mn := fun _ h => .inl h
  th := fun b u e => ⟨u, by rw [upd_ne (ne_of_none e hp)]; exact e⟩
  wf := ⟨fun b f => by
      rcases f with f | f
      · obtain ⟨u, e⟩ := w.al b f
        exact ⟨u, by rw [upd_ne (ne_of_none e hp)]; exact e⟩
      · exact ⟨o, by rw [f, upd_same]⟩, fun b f => by
      rcases f with f | f
      · exact w.nm b f
      · rw [f]; exact w.ok.nnew hp, (Ext.newT w hp).wf.ok, (Ext.newT w hp).wf.tb⟩

/-! ### results -/
inductive Res (α : Type) where
  | ok (a : α) (g : G) | exc (c : Str) (g : G) | stuck
def Mo (α : Type) := G → Res α
instance : Monad Mo where
  pure a := fun g => .ok a g
  bind m k := fun g => match m g with
    | .ok a g' => k a g'
    | .exc c g' => .exc c g'
    | .stuck => .stuck
def Mo.fail {α : Type} : Mo α := fun _ => .stuck
def Mo.raise {α : Type} (c : Str) : Mo α := fun g => .exc c g
def Mo.of {α : Type} : Option α → Mo α
  | some a => pure a
  | none => Mo.fail

/-- what is wanted of an exception of the class named c -/
def EC (W : Wd) (E : XK) (c : Str) (H : Hp) : Prop := ∀ C, W.mg c = some (.ref C) → E (.ref C) none H
def PR {α : Type} (W : Wd) (E : XK) (P : α → Fz → G → Hp → Prop) (F : Fz) (g : G) (H : Hp) : Res α → Prop
  | .ok a g' => ∀ F' H', Ext W F g H F' g' H' → P a F' g' H'
  | .exc c g' => ∀ F' H', Ext W F g H F' g' H' → EC W E c H'
  | .stuck => False
theorem PR.ext {α : Type} {E : XK} {P : α → Fz → G → Hp → Prop} (x : Ext W F g H F1 g1 H1) : ∀ {r : Res α}, PR W E P F g H r → PR W E P F1 g1 H1 r
  | .ok _ _, p => fun F' H' y => p F' H' (x.trans y)
  | .exc _ _, p => fun F' H' y => p F' H' (x.trans y)
  | .stuck, p => p
theorem PR.mono {α : Type} {E : XK} {P P' : α → Fz → G → Hp → Prop} (h : ∀ a F' g' H', Ext W F g H F' g' H' → P a F' g' H' → P' a F' g' H') : ∀ {r : Res α}, PR W E P F g H r → PR W E P' F g H r
  | .ok _ _, p => fun F' H' y => h _ _ _ _ y (p F' H' y)
  | .exc _ _, p => p
  | .stuck, p => p
theorem PR.bind {α β : Type} {E : XK} {P : β → Fz → G → Hp → Prop} {m : Mo α} {k : α → Mo β} {g0 : G} (p : PR W E P F g H ((m >>= k) g0)) : PR W E (fun a F' g' H' => PR W E P F' g' H' (k a g')) F g H (m g0) := by
  have e : (m >>= k) g0 = (match m g0 with
    | .ok a g' => k a g'
    | .exc c g' => .exc c g'
    | .stuck => .stuck) := rfl
  rw [e] at p
  cases q : m g0 with
  | ok a g' => rw [q] at p; exact fun F' H' y => PR.ext y p
  | exc c g' => rw [q] at p; exact p
  | stuck => rw [q] at p; exact p
/-- .. and on -/
theorem PR.bnd {α β : Type} {E : XK} {P : β → Fz → G → Hp → Prop} {P' : α → Fz → G → Hp → Prop} {m : Mo α} {k : α → Mo β} {g0 : G} (p : PR W E P F g H ((m >>= k) g0))
    (h : ∀ a F' g' H', Ext W F g H F' g' H' → PR W E P F' g' H' (k a g') → P' a F' g' H') : PR W E P' F g H (m g0) := (PR.bind p).mono h
theorem PR.of {α : Type} {E : XK} {P : α → Fz → G → Hp → Prop} (w : Wf W F g H) {o : Option α} (p : PR W E P F g H (Mo.of o g)) : ∃ a, o = some a ∧ P a F g H := by
  cases o with
  | none => exact p.elim
  | some a => exact ⟨a, rfl, p F H (Ext.refl w)⟩
theorem PR.ofx {α : Type} {E : XK} {P : α → Fz → G → Hp → Prop} {o : Option α} (p : PR W E P F g H (Mo.of o g)) : ∃ a, o = some a ∧ ∀ F' H', Ext W F g H F' g H' → P a F' g H' := by
  cases o with
  | none => exact p.elim
  | some a => exact ⟨a, rfl, p⟩

/-! ### slots -/
inductive Sl where
  | un | dat (d : D) | cel (xs : List D)
abbrev Ev := List Sl
def SlOk (W : Wd) (F : Fz) (g : G) (H : Hp) : Sl → Option V → Prop
  | .un, _ => True
  | .dat d, o => ∃ v, o = some v ∧ Rep W F H v d
  | .cel xs, o => ∃ a vs, o = some (.ref a) ∧ H a = some (.lst vs) ∧ RepL W F H vs xs ∧ xs.length ≤ sizeLine ∧ ¬ F a ∧ ¬ Mg g a
/-- the state of a body: what is frozen, the draws, the slots -/
structure S (W : Wd) (env : Ev) (σ : St) (F : Fz) (g : G) (H : Hp) : Prop where
  wf : Wf W F g H
  len : env.length = σ.length
  at_ : ∀ (i : Nat) (s : Sl), env[i]? = some s → ∃ o : Option V, σ[i]? = some o ∧ SlOk W F g H s o
  ap : ∀ (i j : Nat) (xs ys : List D) (a : Addr), env[i]? = some (.cel xs) → env[j]? = some (.cel ys) → σ[i]? = some (some (.ref a)) → σ[j]? = some (some (.ref a)) → i = j
theorem SlOk.ext (x : Ext W F g H F' g' H') (w : Wf W F g H) {s : Sl} {o : Option V} (h : SlOk W F g H s o) : SlOk W F' g' H' s o := by
  cases s with
  | un => trivial
  | dat d =>
    obtain ⟨v, e, r⟩ := h
    exact ⟨v, e, r.ext x w⟩
  | cel xs =>
    obtain ⟨a, vs, e, h1, r, z, nf, nm⟩ := h
    refine ⟨a, vs, e, x.kp _ _ h1 nm (fun _ z => by cases z), r.ext x w, z, fun f => ?_, fun m => ?_⟩
    · rcases x.fn a f with q | q
      · exact nf q
      · rw [h1] at q; cases q
    · rcases x.mn a m with q | q
      · exact nm q
      · rw [h1] at q; cases q
theorem S.ext {env : Ev} {σ : St} (s : S W env σ F g H) (x : Ext W F g H F' g' H') : S W env σ F' g' H' :=
  ⟨x.wf, s.len, fun i sl e => let ⟨o, h1, h2⟩ := s.at_ i sl e; ⟨o, h1, h2.ext x s.wf⟩, s.ap⟩

/-! ### readings by data -/
def tE (W : Wd) (E : XK) (f : Ev → Mo D) : TE := fun σ H Q => ∃ F g env, S W env σ F g H ∧ PR W E (fun d F' _ H' => ∀ v, Rep W F' H' v d → Q v H') F g H (f env g)
def tT (W : Wd) (E : XK) (f : Ev → Mo Bool) : TT := fun σ H Q => ∃ F g env, S W env σ F g H ∧ PR W E (fun b _ _ H' => Q b H') F g H (f env g)
def tA (W : Wd) (E : XK) (f : Ev → Mo (List D)) : TA := fun σ H Q => ∃ F g env, S W env σ F g H ∧ PR W E (fun ds F' _ H' => ∀ vs, RepL W F' H' vs ds → Q vs H') F g H (f env g)
end
theorem _root_.L2.PE.imp {X : Cx} {e : Expr} {t t' : TE} (h : PE X e t) (i : ∀ σ H Q, t' σ H Q → t σ H Q) : PE X e t' := ⟨fun pins s σ H Q I w => h.run pins s σ H Q I (i σ H Q w)⟩
theorem _root_.L2.PT.imp {X : Cx} {e : Expr} {t t' : TT} (h : PT X e t) (i : ∀ σ H Q, t' σ H Q → t σ H Q) : PT X e t' := ⟨fun pins s σ H Q I w => h.run pins s σ H Q I (i σ H Q w)⟩
theorem _root_.L2.PW.imp {X : Cx} {e : Expr} {t t' : TT} (h : PW X e t) (i : ∀ σ H Q, t' σ H Q → t σ H Q) : PW X e t' := ⟨fun wh pins s σ H Q I w => h.run wh pins s σ H Q I (i σ H Q w)⟩
theorem _root_.L2.PA.imp {X : Cx} {e : List Expr} {t t' : TA} (h : PA X e t) (i : ∀ σ H Q, t' σ H Q → t σ H Q) : PA X e t' := ⟨fun pos pins s σ H Q I w => h.run pos pins s σ H Q I (i σ H Q w)⟩
theorem _root_.L2.PS.imp {X : Cx} {e : Stmt} {t t' : TS} (h : PS X e t) (i : ∀ D σ H, t' D σ H → t D σ H) : PS X e t' := ⟨fun pins s σ H D I w => h.run pins s σ H D I (i D σ H w)⟩
theorem _root_.L2.PSs.imp {X : Cx} {e : List Stmt} {t t' : TS} (h : PSs X e t) (i : ∀ D σ H, t' D σ H → t D σ H) : PSs X e t' := ⟨fun pins s σ H D I w => h.run pins s σ H D I (i D σ H w)⟩

section
variable {W : Wd} {X : Cx} {E : XK}
/-! ### constants, names -/
theorem de_int {i j pos} : PE X (.Constant (.int i) j pos) (tE W E fun _ => pure (.int i)) := pe_int.imp fun _ _ _ ⟨_, _, _, s, p⟩ => p _ _ (Ext.refl s.wf) _ (.int i)
theorem de_bl {b j pos} : PE X (.Constant (.bool b) j pos) (tE W E fun _ => pure (.bl b)) := pe_bl.imp fun _ _ _ ⟨_, _, _, s, p⟩ => p _ _ (Ext.refl s.wf) _ (.bl b)
theorem de_non {j pos} : PE X (.Constant .none j pos) (tE W E fun _ => pure .non) := pe_non.imp fun _ _ _ ⟨_, _, _, s, p⟩ => p _ _ (Ext.refl s.wf) _ .non
theorem de_str {x j pos} : PE X (.Constant (.str x) j pos) (tE W E fun _ => pure (.str x)) := pe_str.imp fun _ _ _ ⟨_, _, _, s, p⟩ => p _ _ (Ext.refl s.wf) _ (.str x)
def getS (env : Ev) (i : Nat) : Option D := match env[i]? with
  | some (.dat d) => some d
  | _ => none
theorem de_var {i : Nat} {x : Str} {pos : Pos} (hN : X.N[i]? = some x) (hv : Vis X.env.scope x) (hd : (x == ("__debug__" : Str)) = false) (hcd : (x == ("__classdict__" : Str)) = false) :
    PE X (.Name x pos) (tE W E fun env => Mo.of (getS env i)) := (pe_var hN hv hd hcd).imp fun σ H Q ⟨F, g, env, s, p⟩ => by
  obtain ⟨d, e, q⟩ := PR.of s.wf p
  unfold getS at e
  cases h : env[i]? with
  | none => rw [h] at e; cases e
  | some sl =>
    rw [h] at e
    cases sl with
    | dat d' =>
      cases e
      obtain ⟨o, h1, v, h2, r⟩ := s.at_ i _ h
      exact ⟨v, by rw [h1, h2], q v r⟩
    | _ => cases e
theorem de_glo {x : Str} {d : D} {u : Value} {v : V} {pos : Pos} (hg : Gl X x) (hm : X.mg x = some u) (r : RelV v u) (hr : ∀ F H, Rep W F H v d) (hd : (x == ("__debug__" : Str)) = false) :
    PE X (.Name x pos) (tE W E fun _ => pure d) := (pe_glob hg hm r hd).imp fun _ _ _ ⟨_, _, _, s, p⟩ => p _ _ (Ext.refl s.wf) _ (hr _ _)

/-! ### operators -/
/-- the rule r does what f says -/
def Adq2 (W : Wd) (E : XK) (f : D → D → Mo D) (r : R2) : Prop := ∀ F g H x y a b Q, Wf W F g H → Rep W F H x a → Rep W F H y b → PR W E (fun d F' _ H' => ∀ v, Rep W F' H' v d → Q v H') F g H (f a b g) → r x y H Q
theorem tOp_imp {r : R2} {f : D → D → Mo D} {fa fb : Ev → Mo D} (h : Adq2 W E f r) : ∀ σ H Q, tE W E (fun env => do let a ← fa env; let b ← fb env; f a b) σ H Q → tOp r (tE W E fa) (tE W E fb) σ H Q :=
  fun σ H Q ⟨F, g, env, s, p⟩ => ⟨F, g, env, s, p.bnd fun a F1 g1 H1 x1 p1 v rv => ⟨F1, g1, env, s.ext x1, p1.bnd fun b F2 g2 H2 x2 p2 u ru =>
    h F2 g2 H2 v u a b Q x2.wf (rv.ext x2 x1.wf) ru p2⟩⟩
theorem de_op {op : Operator} {r : R2} {f : D → D → Mo D} {fa fb : Ev → Mo D} {a b : Expr} {pos : Pos} (ho : OpR X (binaryOp op) r) (h : Adq2 W E f r) (ha : PE X a (tE W E fa)) (hb : PE X b (tE W E fb)) :
    PE X (.BinOp a op b pos) (tE W E fun env => do let a ← fa env; let b ← fb env; f a b) := (pe_op ho ha hb).imp (tOp_imp h)
theorem de_cmp {op : CmpOp} {r : R2} {f : D → D → Mo D} {fa fb : Ev → Mo D} {a b : Expr} {pos : Pos} (ho : OpR X (compareOp op) r) (h : Adq2 W E f r) (ha : PE X a (tE W E fa)) (hb : PE X b (tE W E fb)) (hm : behindInMarks op b = false) :
    PE X (.Compare a [op] [b] pos) (tE W E fun env => do let a ← fa env; let b ← fb env; f a b) := (pe_cmpR ho ha hb hm).imp (tOp_imp h)
end
end TL
end

-- text TlB
section
set_option maxHeartbeats 4000000
set_option autoImplicit false
namespace TL
open PySem PySem.Spec L2
open PyProof.Rows hiding St
section
variable {W : Wd} {X : Cx} {E : XK} {F : Fz} {g : G} {H : Hp}
/-- the limit of lengths that the data's walk asks -/
def lim : Nat := 1000000
theorem lim_le {n : Nat} (h : n ≤ lim) : n ≤ sizeLine := Nat.le_trans h (by decide)
theorem lim_lt {n : Nat} (h : n ≤ lim) : n < sizeLine := Nat.lt_of_le_of_lt h (by decide)

/-! ### what a result gives -/
abbrev PQ (W : Wd) (Q : VK) : D → Fz → G → Hp → Prop := fun d F' _ H' => ∀ v, Rep W F' H' v d → Q v H'
theorem pq_pure {d : D} {v : V} {Q : VK} (w : Wf W F g H) (p : PR W E (PQ W Q) F g H ((pure d : Mo D) g)) (r : Rep W F H v d) : Q v H := p F H (Ext.refl w) v r
theorem pq_tup {ds : List D} {vs : List V} {Q : VK} (w : Wf W F g H) (p : PR W E (PQ W Q) F g H ((pure (.tup ds) : Mo D) g)) (r : RepL W F H vs ds) (z : ds.length ≤ sizeLine) {q : Addr} (hq : H q = none) : Q (.ref q) (upd H q (.tup vs)) :=
  p F _ (Ext.newT w hq) _ (.tup (.inl (.inl upd_same)) z (r.ext (Ext.newT w hq) w))
theorem pq_lst {ds : List D} {vs : List V} {Q : VK} (w : Wf W F g H) (p : PR W E (PQ W Q) F g H ((pure (.lst ds) : Mo D) g)) (r : RepL W F H vs ds) (z : ds.length ≤ sizeLine) {q : Addr} (hq : H q = none) : Q (.ref q) (upd H q (.lst vs)) :=
  p _ _ (Ext.newF w hq) _ (.lst (.inr rfl) upd_same z (r.ext (Ext.newF w hq) w))

/-! ### binary operators -/
def addD : D → D → Mo D
  | .int i, .int j => pure (.int (i + j))
  | .str x, .str y => if x.length + y.length ≤ lim then pure (.str (x ++ y)) else Mo.fail
  | .tup xs, .tup ys => if xs.length + ys.length ≤ lim then pure (.tup (xs ++ ys)) else Mo.fail
  | .lst xs, .lst ys => if xs.length + ys.length ≤ lim then pure (.lst (xs ++ ys)) else Mo.fail
  | _, _ => Mo.fail
def rAddD (K : PySem.W.Frag) : R2 := fun x y H Q => (rI0 fun i j => .int (i + j)) x y H Q ∨ (∃ i j, x = .str i ∧ y = .str j ∧ i.length + j.length ≤ sizeLine ∧ Q (.str (i ++ j)) H) ∨ rCatA K x y H Q ∨ rCat x y H Q
theorem op_addD : OpR X (binaryOp .Add) (rAddD X.K) := op_add.or (op_add_str.or (op_catA.or op_cat))
theorem pr_if {α : Type} {P : α → Fz → G → Hp → Prop} {c : Prop} [Decidable c] {m : Mo α} {g0 : G} (p : PR W E P F g H ((if c then m else Mo.fail) g0)) : c ∧ PR W E P F g H (m g0) := by
  by_cases h : c
  · rw [if_pos h] at p; exact ⟨h, p⟩
  · rw [if_neg h] at p; exact p.elim
theorem RepL.nil_iff {F : Fz} {H : Hp} {vs : List V} {ds : List D} (r : RepL W F H vs ds) : vs = [] ↔ ds = [] := by
  cases r <;> simp
theorem adq_add : Adq2 W E addD (rAddD W.K) := by
  intro F g H x y a b Q w ra rb p
  cases ra with
  | int i => cases rb with
    | int j => exact .inl ⟨i, j, rfl, rfl, pq_pure w p (.int _)⟩
    | _ => exact p.elim
  | str i => cases rb with
    | str j =>
      obtain ⟨z, p⟩ := pr_if p
      exact .inr (.inl ⟨i, j, rfl, rfl, lim_le z, pq_pure w p (.str _)⟩)
    | _ => exact p.elim
  | tup h1 z1 r1 => cases rb with
    | tup h2 z2 r2 =>
      obtain ⟨z, p⟩ := pr_if p
      have l1 := r1.length
      have l2 := r2.length
      refine .inr (.inr (.inl ⟨_, _, _, _, rfl, rfl, h1, h2, by rw [l1, l2]; exact lim_le z, fun e => ?_, fun e1 e2 => ?_, fun _ _ q hq => ?_⟩))
      · have e' := r1.nil_iff.mp e
        subst e'
        exact pq_pure w p (.tup h2 z2 r2)
      · have e' := r2.nil_iff.mp e2
        subst e'
        rw [List.append_nil] at p
        exact pq_pure w p (.tup h1 z1 r1)
      · exact pq_tup w p (r1.append r2) (by rw [List.length_append]; exact lim_le z) hq
    | _ => exact p.elim
  | lst f1 h1 z1 r1 => cases rb with
    | lst f2 h2 z2 r2 =>
      obtain ⟨z, p⟩ := pr_if p
      have l1 := r1.length
      have l2 := r2.length
      exact .inr (.inr (.inr ⟨_, _, _, _, rfl, rfl, h1, h2, by rw [l1, l2]; exact lim_le z, fun q hq => pq_lst w p (r1.append r2) (by rw [List.length_append]; exact lim_le z) hq⟩))
    | _ => exact p.elim
  | _ => exact p.elim

def subD : D → D → Mo D
  | .int i, .int j => pure (.int (i - j))
  | _, _ => Mo.fail
theorem adq_sub : Adq2 W E subD (rI0 fun i j => .int (i - j)) := by
  intro F g H x y a b Q w ra rb p
  cases ra with
  | int i => cases rb with
    | int j => exact ⟨i, j, rfl, rfl, pq_pure w p (.int _)⟩
    | _ => exact p.elim
  | _ => exact p.elim

/-- how many bits a product may have together -/
def mulOk (i j : Int) : Bool := decide (i.natAbs.log2 + j.natAbs.log2 < 1000000)
def divOk (j : Int) : Bool := decide (j ≠ 0) && decide (j.natAbs.log2 < 9000)
def powOk (i j : Int) : Bool := decide (0 ≤ j) && decide ((Builtin.Int.intBits i : Int) * j ≤ 2 ^ 27)
theorem op_powW : OpR X (binaryOp .Pow) (rI (fun i j => powOk i j = true) fun i j => .int (i ^ j.toNat)) := opI fun i j _ _ _ _ _ hc q => by
  have h := Bool.and_eq_true_iff.mp (show (decide (0 ≤ j) && decide ((Builtin.Int.intBits i : Int) * j ≤ 2 ^ 27)) = true from hc)
  exact pow_int (of_decide_eq_true h.1) (of_decide_eq_true h.2) q
theorem op_fdivD : OpR X (binaryOp .FloorDiv) (rI (fun _ j => divOk j = true) fun i j => .int (i.fdiv j)) := opI fun i j _ _ _ _ _ hc q => by
  have h := Bool.and_eq_true_iff.mp (show (decide (j ≠ 0) && decide (j.natAbs.log2 < 9000)) = true from hc)
  exact floordiv_int (of_decide_eq_true h.1) q (.inl (PyProof.noPylong_of_log2 (of_decide_eq_true h.2)))
def mulD : D → D → Mo D
  | .int i, .int j => if mulOk i j = true then pure (.int (i * j)) else Mo.fail
  | .lst xs, .int k => if 0 ≤ k ∧ k ≤ 1000 ∧ xs.length ≤ 1000 then pure (.lst (List.replicate k.toNat xs).flatten) else Mo.fail
  | .tup xs, .int k => if 0 ≤ k ∧ k ≤ 1000 ∧ xs.length ≤ 1000 then pure (.tup (List.replicate k.toNat xs).flatten) else Mo.fail
  | .str x, .int k => if 0 ≤ k ∧ k ≤ 1000 ∧ x.length ≤ 1000 then pure (.str ⟨((List.replicate k.toNat x.cps.toList).flatten).toArray⟩) else Mo.fail
  | _, _ => Mo.fail
def fdivD : D → D → Mo D
  | .int i, .int j => if divOk j = true then pure (.int (i.fdiv j)) else Mo.fail
  | _, _ => Mo.fail
theorem adq_fdiv : Adq2 W E fdivD (rI (fun _ j => divOk j = true) fun i j => .int (i.fdiv j)) := by
  intro F g H x y a b Q w ra rb p
  cases ra with
  | int i => cases rb with
    | int j =>
      obtain ⟨z, p⟩ := pr_if p
      exact ⟨i, j, rfl, rfl, z, pq_pure w p (.int _)⟩
    | _ => exact p.elim
  | _ => exact p.elim
def modD : D → D → Mo D
  | .int i, .int j => if 0 < j then pure (.int (i % j)) else Mo.fail
  | _, _ => Mo.fail
theorem adq_mod : Adq2 W E modD (rI (fun _ j => 0 < j) fun i j => .int (i % j)) := by
  intro F g H x y a b Q w ra rb p
  cases ra with
  | int i => cases rb with
    | int j =>
      obtain ⟨z, p⟩ := pr_if p
      exact ⟨i, j, rfl, rfl, z, pq_pure w p (.int _)⟩
    | _ => exact p.elim
  | _ => exact p.elim
def powD : D → D → Mo D
  | .int i, .int j => if powOk i j = true then pure (.int (i ^ j.toNat)) else Mo.fail
  | _, _ => Mo.fail
theorem adq_pow : Adq2 W E powD (rI (fun i j => powOk i j = true) fun i j => .int (i ^ j.toNat)) := by
  intro F g H x y a b Q w ra rb p
  cases ra with
  | int i => cases rb with
    | int j =>
      obtain ⟨z, p⟩ := pr_if p
      exact ⟨i, j, rfl, rfl, z, pq_pure w p (.int _)⟩
    | _ => exact p.elim
  | _ => exact p.elim

/-! ### comparisons -/
mutual
def toPy : D → Option PyData
  | .non => some .none
  | .bl b => some (.bool b)
  | .int i => some (.int i)
  | .str x => some (.str x)
  | .tup xs => (toPyL xs).map .tuple
  | .lst xs => (toPyL xs).map .list
  | _ => none
def toPyL : List D → Option (List PyData)
  | [] => some []
  | x :: xs => match toPy x, toPyL xs with
    | some y, some ys => some (y :: ys)
    | _, _ => none
end
mutual
theorem Rep.dp : ∀ {v : V} {d : D} {y : PyData}, Rep W F H v d → toPy d = some y → Dp W.K H v y
  | _, _, _, .non, e => by cases e; exact .non
  | _, _, _, .bl b, e => by cases e; exact .bl b
  | _, _, _, .int i, e => by cases e; exact .int i
  | _, _, _, .str x, e => by cases e; exact .str x
  | _, _, _, .tup h z r, e => by
    obtain ⟨ys, e1, e2⟩ := Option.map_eq_some_iff.mp (show (toPyL _).map PyData.tuple = some _ from e)
    subst e2
    exact .tup h (RepL.dp r e1)
  | _, _, _, .lst f h z r, e => by
    obtain ⟨ys, e1, e2⟩ := Option.map_eq_some_iff.mp (show (toPyL _).map PyData.list = some _ from e)
    subst e2
    exact .lst (.inl (.inl h)) (RepL.dp r e1)
  | _, _, _, .dnil .., e => by cases e
  | _, _, _, .scr .., e => by cases e
  | _, _, _, .ptr .., e => by cases e
  | _, _, _, .exc .., e => by cases e
theorem RepL.dp : ∀ {vs : List V} {ds : List D} {ys : List PyData}, RepL W F H vs ds → toPyL ds = some ys → DpAll W.K H vs ys
  | _, _, _, .nil, e => by cases e; exact .nil
  | _, _, _, .cons (d := d) (ds := ds) r t, e => by
    have e : (match toPy d, toPyL ds with
      | some y, some ys => some (y :: ys)
      | _, _ => none) = some _ := e
    cases h1 : toPy d with
    | none => rw [h1] at e; cases e
    | some y =>
      cases h2 : toPyL ds with
      | none => rw [h1, h2] at e; cases e
      | some zs =>
        rw [h1, h2] at e
        cases e
        exact .cons (Rep.dp r h1) (RepL.dp t h2)
end
/-- == of data (None for what the walk cannot tell) -/
def eqO (a b : D) : Option Bool := match toPy a, toPy b with
  | some x, some y => if SeqAt.shaped x = true ∧ SeqAt.shaped y = true then some (PyData.eqv x y) else none
  | _, _ => none
def eqD (a b : D) : Mo D := Mo.of ((eqO a b).map D.bl)
def neD (a b : D) : Mo D := Mo.of ((eqO a b).map fun k => D.bl (!k))
theorem eqO_some {a b : D} {k : Bool} (h : eqO a b = some k) : ∃ x y, toPy a = some x ∧ toPy b = some y ∧ SeqAt.shaped x = true ∧ SeqAt.shaped y = true ∧ k = PyData.eqv x y := by
  unfold eqO at h
  cases h1 : toPy a with
  | none => rw [h1] at h; cases h
  | some x =>
    cases h2 : toPy b with
    | none => rw [h1, h2] at h; cases h
    | some y =>
      rw [h1, h2] at h
      by_cases c : SeqAt.shaped x = true ∧ SeqAt.shaped y = true
      · have h : (if SeqAt.shaped x = true ∧ SeqAt.shaped y = true then some (PyData.eqv x y) else none) = some k := h
        rw [if_pos c] at h
        exact ⟨x, y, rfl, rfl, c.1, c.2, (Option.some.inj h).symm⟩
      · have h : (if SeqAt.shaped x = true ∧ SeqAt.shaped y = true then some (PyData.eqv x y) else none) = some k := h
        rw [if_neg c] at h
        cases h
theorem adq_eq : Adq2 W E eqD (rEqD W.K) := by
  intro F g H x y a b Q w ra rb p
  obtain ⟨d, e, q⟩ := PR.of w p
  obtain ⟨k, e1, e2⟩ := Option.map_eq_some_iff.mp e
  obtain ⟨s, t, h1, h2, h3, h4, h5⟩ := eqO_some e1
  subst e2; subst h5
  exact ⟨s, t, ra.dp h1, rb.dp h2, h3, h4, q _ (.bl _)⟩
theorem adq_ne : Adq2 W E neD (rNeD W.K) := by
  intro F g H x y a b Q w ra rb p
  obtain ⟨d, e, q⟩ := PR.of w p
  obtain ⟨k, e1, e2⟩ := Option.map_eq_some_iff.mp e
  obtain ⟨s, t, h1, h2, h3, h4, h5⟩ := eqO_some e1
  subst e2; subst h5
  exact ⟨s, t, ra.dp h1, rb.dp h2, h3, h4, q _ (.bl _)⟩
/-- < on numbers and texts -/
def ltO : D → D → Option Bool
  | .int i, .int j => some (decide (i < j))
  | .str x, .str y => some (decide (x.cps.toList < y.cps.toList))
  | _, _ => none
def leO : D → D → Option Bool
  | .int i, .int j => some (decide (i ≤ j))
  | .str x, .str y => some (!decide (y.cps.toList < x.cps.toList))
  | _, _ => none
def ltD (a b : D) : Mo D := Mo.of ((ltO a b).map D.bl)
def leD (a b : D) : Mo D := Mo.of ((leO a b).map D.bl)
def gtD (a b : D) : Mo D := ltD b a
def geD (a b : D) : Mo D := leD b a
abbrev rCmpD (f : Int → Int → Bool) (h : Str → Str → Bool) : R2 := fun x y H Q => (rI0 fun i j => .bl (f i j)) x y H Q ∨ (∃ i j, x = .str i ∧ y = .str j ∧ Q (.bl (h i j)) H)
theorem op_ltD : OpR X (compareOp .Lt) (rCmpD (fun i j => decide (i < j)) fun x y => decide (x.cps.toList < y.cps.toList)) := op_lt.or op_lt_str
theorem op_leD : OpR X (compareOp .LtE) (rCmpD (fun i j => decide (i ≤ j)) fun x y => !decide (y.cps.toList < x.cps.toList)) := op_le.or op_le_str
theorem op_gtD : OpR X (compareOp .Gt) (rCmpD (fun i j => decide (j < i)) fun x y => decide (y.cps.toList < x.cps.toList)) := op_gt.or op_gt_str
theorem op_geD : OpR X (compareOp .GtE) (rCmpD (fun i j => decide (j ≤ i)) fun x y => !decide (x.cps.toList < y.cps.toList)) := op_ge.or op_ge_str
theorem adq_lt : Adq2 W E ltD (rCmpD (fun i j => decide (i < j)) fun x y => decide (x.cps.toList < y.cps.toList)) := by
  intro F g H x y a b Q w ra rb p
  obtain ⟨d, e, q⟩ := PR.of w p
  cases ra with
  | int i => cases rb with
    | int j => cases e; exact .inl ⟨i, j, rfl, rfl, q _ (.bl _)⟩
    | _ => cases e
  | str i => cases rb with
    | str j => cases e; exact .inr ⟨i, j, rfl, rfl, q _ (.bl _)⟩
    | _ => cases e
  | _ => cases e
theorem adq_le : Adq2 W E leD (rCmpD (fun i j => decide (i ≤ j)) fun x y => !decide (y.cps.toList < x.cps.toList)) := by
  intro F g H x y a b Q w ra rb p
  obtain ⟨d, e, q⟩ := PR.of w p
  cases ra with
  | int i => cases rb with
    | int j => cases e; exact .inl ⟨i, j, rfl, rfl, q _ (.bl _)⟩
    | _ => cases e
  | str i => cases rb with
    | str j => cases e; exact .inr ⟨i, j, rfl, rfl, q _ (.bl _)⟩
    | _ => cases e
  | _ => cases e
theorem adq_gt : Adq2 W E gtD (rCmpD (fun i j => decide (j < i)) fun x y => decide (y.cps.toList < x.cps.toList)) := by
  intro F g H x y a b Q w ra rb p
  obtain ⟨d, e, q⟩ := PR.of w p
  cases ra with
  | int i => cases rb with
    | int j => cases e; exact .inl ⟨i, j, rfl, rfl, q _ (.bl _)⟩
    | _ => cases e
  | str i => cases rb with
    | str j => cases e; exact .inr ⟨i, j, rfl, rfl, q _ (.bl _)⟩
    | _ => cases e
  | _ => cases rb <;> cases e
theorem adq_ge : Adq2 W E geD (rCmpD (fun i j => decide (j ≤ i)) fun x y => !decide (x.cps.toList < y.cps.toList)) := by
  intro F g H x y a b Q w ra rb p
  obtain ⟨d, e, q⟩ := PR.of w p
  cases ra with
  | int i => cases rb with
    | int j => cases e; exact .inl ⟨i, j, rfl, rfl, q _ (.bl _)⟩
    | _ => cases e
  | str i => cases rb with
    | str j => cases e; exact .inr ⟨i, j, rfl, rfl, q _ (.bl _)⟩
    | _ => cases e
  | _ => cases rb <;> cases e
/-- is, is not: None and truths -/
def isO : D → D → Option Bool
  | .bl a, .bl b => some (decide (a = b))
  | .non, .non => some true
  | .bl _, .non | .int _, .non | .str _, .non | .tup _, .non | .lst _, .non | .dnil, .non | .ptr _, .non | .exc _, .non => some false
  | _, _ => none
def isD (a b : D) : Mo D := Mo.of ((isO a b).map D.bl)
def isNotD (a b : D) : Mo D := Mo.of ((isO a b).map fun k => D.bl (!k))
abbrev rIsD : R2 := fun x y H Q => rIsB x y H Q ∨ (y = .non ∧ Q (.bl (decide (x = .non))) H)
abbrev rIsNotD : R2 := fun x y H Q => rNotB x y H Q ∨ (y = .non ∧ Q (.bl (!decide (x = .non))) H)
end
end TL
end

-- text TlC
section
set_option maxHeartbeats 4000000
set_option autoImplicit false
namespace TL
open PySem PySem.Spec L2
open PyProof.Rows hiding St
section
variable {W : Wd} {X : Cx} {E : XK} {F : Fz} {g : G} {H : Hp}
theorem op_isDD : OpR X (compareOp .Is) rIsD := op_isBl.or op_isN
theorem op_isNotDD : OpR X (compareOp .IsNot) rIsNotD := op_notBl.or op_notN
theorem adq_is : Adq2 W E isD rIsD := by
  intro F g H x y a b Q w ra rb p
  obtain ⟨d, e, q⟩ := PR.of w p
  cases ra <;> cases rb <;> first
    | (cases e; exact .inl ⟨_, _, rfl, rfl, q _ (.bl _)⟩)
    | (cases e; exact .inr ⟨rfl, q _ (.bl _)⟩)
    | cases e
theorem adq_isNot : Adq2 W E isNotD rIsNotD := by
  intro F g H x y a b Q w ra rb p
  obtain ⟨d, e, q⟩ := PR.of w p
  cases ra <;> cases rb <;> first
    | (cases e; exact .inl ⟨_, _, rfl, rfl, q _ (.bl _)⟩)
    | (cases e; exact .inr ⟨rfl, q _ (.bl _)⟩)
    | cases e
/-! ### in -/
def flatD : D → Bool
  | .non | .bl _ | .int _ | .str _ => true
  | _ => false
def eqF : D → D → Bool
  | .non, .non => true
  | .bl a, .bl b => a == b
  | .bl a, .int b => (if a then 1 else 0) == b
  | .int a, .bl b => a == (if b then 1 else 0)
  | .int a, .int b => a == b
  | .str a, .str b => a == b
  | _, _ => false
theorem Rep.flat {v : V} {d : D} (r : Rep W F H v d) (f : flatD d = true) : flatV v = true := by
  cases r <;> first | rfl | cases f
theorem RepL.flat : ∀ {vs : List V} {ds : List D}, RepL W F H vs ds → ds.all flatD = true → vs.all flatV = true
  | _, _, .nil, _ => rfl
  | _, _, .cons r t, f => by
    rw [List.all_cons, Bool.and_eq_true] at f ⊢
    exact ⟨r.flat f.1, RepL.flat t f.2⟩
theorem Rep.eqF {v u : V} {d e : D} (r : Rep W F H v d) (q : Rep W F H u e) : flatD d = true → flatD e = true → eqV v u = eqF d e := by
  intro f1 f2
  cases r <;> cases q <;> first | rfl | cases f1 | cases f2
theorem RepL.inV {v : V} {d : D} (r : Rep W F H v d) (f : flatD d = true) : ∀ {vs : List V} {ds : List D}, RepL W F H vs ds → ds.all flatD = true → inV v vs = ds.any fun y => TL.eqF y d
  | _, _, .nil, _ => rfl
  | _, _, .cons q t, h => by
    rw [List.all_cons, Bool.and_eq_true] at h
    have ih := RepL.inV r f t h.2
    unfold L2.inV at ih ⊢
    rw [List.any_cons, List.any_cons, q.eqF r h.1 f, ih]
def inO : D → D → Option Bool
  | .str c, .str z => if c.cps.size = 1 then some (decide (c.cps.getD 0 0 ∈ z.cps.toList)) else none
  | x, .tup ys => if flatD x = true ∧ ys.all flatD = true then some (ys.any fun y => eqF y x) else none
  | x, .lst ys => match toPy x, toPyL ys with
    | some d, some ds => if SeqAt.shaped d = true ∧ SeqAt.shaped (.list ds) = true then some (ds.any fun z => PyData.eqv z d) else none
    | _, _ => none
  | _, _ => none
def inD (a b : D) : Mo D := Mo.of ((inO a b).map D.bl)
def notInD (a b : D) : Mo D := Mo.of ((inO a b).map fun k => D.bl (!k))
abbrev rInX (K : PySem.W.Frag) (neg : Bool) : R2 := fun x y H Q => (∃ (c : Nat) (z : Str), x = .str ⟨#[c]⟩ ∧ y = .str z ∧ Q (.bl (if neg = true then !decide (c ∈ z.cps.toList) else decide (c ∈ z.cps.toList))) H) ∨ rIn K neg x y H Q ∨
  (∃ d ds, Dp K H x d ∧ Dp K H y (.list ds) ∧ SeqAt.shaped d = true ∧ SeqAt.shaped (.list ds) = true ∧ Q (.bl (if neg = true then !ds.any fun z => PyData.eqv z d else ds.any fun z => PyData.eqv z d)) H)
theorem op_inX (hu : X.A.units + 65 < cLine) : OpR X (compareOp .In) (rInX X.K false) := op_in_sign.or (op_in_seq.or (op_inD hu))
theorem op_notInX (hu : X.A.units + 65 < cLine) : OpR X (compareOp .NotIn) (rInX X.K true) := op_notIn_sign.or (op_notIn_seq.or (op_notInD hu))
theorem sign1 {c : Str} (h : c.cps.size = 1) : c = ⟨#[c.cps.getD 0 0]⟩ := by
  obtain ⟨⟨l⟩⟩ := c
  match l, h with
  | [a], _ => rfl
theorem in_ok {x y : V} {a b : D} {k : Bool} {Q : VK} (neg : Bool) (ra : Rep W F H x a) (rb : Rep W F H y b) (e : inO a b = some k) (q : Q (.bl (if neg = true then !k else k)) H) : rInX W.K neg x y H Q := by
  have tupc : ∀ {p : Addr} {vs : List V} {ys : List D}, SqT W.K H p vs → RepL W F H vs ys → (if flatD a = true ∧ ys.all flatD = true then some (ys.any fun y => eqF y a) else none) = some k → rInX W.K neg x (.ref p) H Q := by
    intro p vs ys h r e
    by_cases c : flatD a = true ∧ ys.all flatD = true
    · rw [if_pos c] at e
      refine .inr (.inl ⟨_, _, rfl, .inr h, ra.flat c.1, r.flat c.2, ?_⟩)
      rw [RepL.inV ra c.1 r c.2, Option.some.inj e]
      exact q
    · rw [if_neg c] at e; cases e
  have lstc : ∀ {ys : List D}, Rep W F H y (.lst ys) → (match toPy a, toPyL ys with
      | some d, some ds => if SeqAt.shaped d = true ∧ SeqAt.shaped (.list ds) = true then some (ds.any fun z => PyData.eqv z d) else none
      | _, _ => none) = some k → rInX W.K neg x y H Q := by
    intro ys r e
    cases h1 : toPy a with
    | none => rw [h1] at e; cases e
    | some d =>
      cases h2 : toPyL ys with
      | none => rw [h1, h2] at e; cases e
      | some ds =>
        rw [h1, h2] at e
        have e : (if SeqAt.shaped d = true ∧ SeqAt.shaped (.list ds) = true then some (ds.any fun z => PyData.eqv z d) else none) = some k := e
        by_cases c : SeqAt.shaped d = true ∧ SeqAt.shaped (.list ds) = true
        · rw [if_pos c] at e
          refine .inr (.inr ⟨d, ds, ra.dp h1, r.dp (by show (toPyL ys).map PyData.list = _; rw [h2]; rfl), c.1, c.2, ?_⟩)
          rw [Option.some.inj e]
          exact q
        · rw [if_neg c] at e; cases e
  cases rb with
  | str z =>
    cases ra with
    | str c =>
      have e : (if c.cps.size = 1 then some (decide (c.cps.getD 0 0 ∈ z.cps.toList)) else none) = some k := e
      by_cases h : c.cps.size = 1
      · rw [if_pos h] at e
        refine .inl ⟨c.cps.getD 0 0, z, congrArg V.str (sign1 h), rfl, ?_⟩
        have e' := Option.some.inj e
        rw [e']
        exact q
      · rw [if_neg h] at e; cases e
    | _ => cases e
  | tup h z r => cases a <;> exact tupc h r e
  | lst f h z r => cases a <;> exact lstc (.lst f h z r) e
  | _ => cases a <;> cases e
theorem adq_in : Adq2 W E inD (rInX W.K false) := by
  intro F g H x y a b Q w ra rb p
  obtain ⟨d, e, q⟩ := PR.of w p
  obtain ⟨k, e1, e2⟩ := Option.map_eq_some_iff.mp e
  subst e2
  exact in_ok false ra rb e1 (by rw [if_neg Bool.false_ne_true]; exact q _ (.bl _))
theorem adq_notIn : Adq2 W E notInD (rInX W.K true) := by
  intro F g H x y a b Q w ra rb p
  obtain ⟨d, e, q⟩ := PR.of w p
  obtain ⟨k, e1, e2⟩ := Option.map_eq_some_iff.mp e
  subst e2
  exact in_ok true ra rb e1 (by rw [if_pos rfl]; exact q _ (.bl _))

/-! ### one-place -/
def negD : D → Mo D
  | .int i => pure (.int (-i))
  | _ => Mo.fail
theorem de_neg {a : Expr} {fa : Ev → Mo D} {pos : Pos} (ha : PE X a (tE W E fa)) : PE X (.UnaryOp .USub a pos) (tE W E fun env => do let a ← fa env; negD a) :=
  (pe_un un_neg ha).imp fun σ H Q ⟨F, g, env, s, p⟩ => ⟨F, g, env, s, p.bnd fun a F1 g1 H1 x1 p1 v rv => by
    cases rv with
    | int i => exact ⟨i, rfl, pq_pure x1.wf p1 (.int _)⟩
    | _ => exact p1.elim⟩

/-! ### arguments, displays -/
theorem da_nil : PA X [] (tA W E fun _ => pure []) := pa_nil.imp fun _ _ _ ⟨_, _, _, s, p⟩ => p _ _ (Ext.refl s.wf) _ .nil
theorem da_cons {e : Expr} {es : List Expr} {fa : Ev → Mo D} {fs : Ev → Mo (List D)} (ha : PE X e (tE W E fa)) (hr : PA X es (tA W E fs)) (hs : starEach (e :: es) X.env = (false, eval e X.env) :: starEach es X.env) :
    PA X (e :: es) (tA W E fun env => do let a ← fa env; let as ← fs env; pure (a :: as)) :=
  (pa_cons ha hr hs).imp fun σ H Q ⟨F, g, env, s, p⟩ => ⟨F, g, env, s, p.bnd fun a F1 g1 H1 x1 p1 v rv => ⟨F1, g1, env, s.ext x1, p1.bnd fun as F2 g2 H2 x2 p2 vs rs =>
    p2 F2 H2 (Ext.refl x2.wf) _ (.cons (rv.ext x2 x1.wf) rs)⟩⟩
def mkTup (ds : List D) : Mo D := if ds.length ≤ lim then pure (.tup ds) else Mo.fail
def mkLst (ds : List D) : Mo D := if ds.length ≤ lim then pure (.lst ds) else Mo.fail
theorem de_tup {es : List Expr} {fs : Ev → Mo (List D)} {x1 pos} (h : PA X es (tA W E fs)) : PE X (.Tuple es x1 pos) (tE W E fun env => do let as ← fs env; mkTup as) :=
  (pe_tup h).imp fun σ H Q ⟨F, g, env, s, p⟩ => ⟨F, g, env, s, p.bnd fun as F1 g1 H1 x1 p1 vs rs => by
    obtain ⟨z, p1⟩ := pr_if p1
    exact ⟨by rw [rs.length]; exact lim_le z, fun q hq => pq_tup x1.wf p1 rs (lim_le z) hq⟩⟩
theorem de_lst {es : List Expr} {fs : Ev → Mo (List D)} {pos} (h : PA X es (tA W E fs)) : PE X (.List es pos) (tE W E fun env => do let as ← fs env; mkLst as) :=
  (pe_lst h).imp fun σ H Q ⟨F, g, env, s, p⟩ => ⟨F, g, env, s, p.bnd fun as F1 g1 H1 x1 p1 vs rs => by
    obtain ⟨z, p1⟩ := pr_if p1
    exact ⟨by rw [rs.length]; exact lim_le z, fun q hq => pq_lst x1.wf p1 rs (lim_le z) hq⟩⟩
theorem de_dnil {pos} : PE X (.Dict [] [] pos) (tE W E fun _ => pure .dnil) :=
  pe_dnewK.imp fun σ H Q ⟨F, g, env, s, p⟩ q hq => p _ _ (Ext.newF s.wf hq) _ (.dnil (.inr rfl) upd_same)

/-! ### subscripts -/
def ixD : D → D → Mo D
  | .tup xs, .int i => Mo.of (atI xs i)
  | .lst xs, .int i => Mo.of (atI xs i)
  | .str z, .int i => if z.length ≤ lim then Mo.of ((atI z.cps.toList i).map fun c => .str ⟨#[c]⟩) else Mo.fail
  | _, _ => Mo.fail
theorem RepL.atI {vs : List V} {ds : List D} {i : Int} {d : D} (r : RepL W F H vs ds) (e : atI ds i = some d) : ∃ v, L2.atI vs i = some v ∧ Rep W F H v d := by
  unfold L2.atI at e ⊢
  rw [r.length]
  cases h : ixN ds.length i with
  | none => rw [h] at e; cases e
  | some j =>
    rw [h] at e
    obtain ⟨v, h1, h2⟩ := r.get (i := j) e
    exact ⟨v, h1, h2⟩
theorem adq_ix : Adq2 W E ixD (rIx W.K) := by
  intro F g H x y a b Q w ra rb p
  cases ra with
  | tup h z r => cases rb with
    | int i =>
      obtain ⟨d, e, q⟩ := PR.of w p
      obtain ⟨v, e1, r1⟩ := r.atI e
      exact .inr (.inl ⟨_, _, _, v, rfl, rfl, h, e1, q v r1⟩)
    | _ => exact p.elim
  | lst f h z r => cases rb with
    | int i =>
      obtain ⟨d, e, q⟩ := PR.of w p
      obtain ⟨v, e1, r1⟩ := r.atI e
      exact .inl ⟨_, _, _, v, rfl, rfl, .inl (.inl h), e1, q v r1⟩
    | _ => exact p.elim
  | str z => cases rb with
    | int i =>
      obtain ⟨hz, p⟩ := pr_if p
      obtain ⟨d, e, q⟩ := PR.of w p
      obtain ⟨c, e1, e2⟩ := Option.map_eq_some_iff.mp e
      subst e2
      exact .inr (.inr ⟨z, i, c, rfl, rfl, lim_le hz, e1, q _ (.str _)⟩)
    | _ => exact p.elim
  | _ => exact p.elim
end
end TL
end

-- text TlD
section
set_option maxHeartbeats 4000000
set_option autoImplicit false
namespace TL
open PySem PySem.Spec L2
open PyProof.Rows hiding St
section
variable {W : Wd} {X : Cx} {E : XK} {F : Fz} {g : G} {H : Hp}
/-! ### subscripts and slices as expressions -/
theorem de_ix {a b : Expr} {fa fb : Ev → Mo D} {pos : Pos} (hK : X.K = W.K) (ha : PE X a (tE W E fa)) (hb : PE X b (tE W E fb)) (hs : PlainIx b) :
    PE X (.Subscript a b pos) (tE W E fun env => do let a ← fa env; let b ← fb env; ixD a b) := (pe_ix (hK ▸ ix_seq) ha hb hs).imp (tOp_imp adq_ix)
def tO (W : Wd) (E : XK) (f : Ev → Mo (Option Int)) : TO := fun σ H Q => ∃ F g env, S W env σ F g H ∧ PR W E (fun o _ _ H' => Q o H') F g H (f env g)
theorem _root_.L2.PO.imp {X : Cx} {e : Option Expr} {t t' : TO} (h : PO X e t) (i : ∀ σ H Q, t' σ H Q → t σ H Q) : PO X e t' := ⟨fun pins s σ H Q I w => h.run pins s σ H Q I (i σ H Q w)⟩
def intO : D → Option (Option Int)
  | .int i => some (some i)
  | _ => none
theorem do_none : PO X none (tO W E fun _ => pure none) := po_none.imp fun _ _ _ ⟨_, _, _, s, p⟩ => p _ _ (Ext.refl s.wf)
theorem do_some {e : Expr} {fe : Ev → Mo D} (h : PE X e (tE W E fe)) : PO X (some e) (tO W E fun env => do let a ← fe env; Mo.of (intO a)) :=
  (po_some h).imp fun σ H Q ⟨F, g, env, s, p⟩ => ⟨F, g, env, s, p.bnd fun a F1 g1 H1 x1 p1 v rv => by
    obtain ⟨o, e, q⟩ := PR.of x1.wf p1
    cases rv with
    | int i => cases e; exact ⟨i, rfl, q⟩
    | _ => cases e⟩
def cutG {α : Type} (xs : List α) (lo hi : Option Int) : List α := (xs.drop (HT.sIx xs.length 0 lo)).take (HT.sIx xs.length xs.length hi - HT.sIx xs.length 0 lo)
theorem RepL.cut {vs : List V} {ds : List D} (r : RepL W F H vs ds) (lo hi : Option Int) : RepL W F H (cutV vs lo hi) (cutG ds lo hi) := by
  unfold cutV cutG
  rw [r.length]
  exact (r.drop _).take _
theorem cutG_length {α : Type} (xs : List α) (lo hi : Option Int) : (cutG xs lo hi).length ≤ xs.length := by
  unfold cutG
  rw [List.length_take, List.length_drop]
  omega
theorem cutG_whole {α : Type} {xs : List α} {lo hi : Option Int} (h : HT.sIx xs.length 0 lo = 0 ∧ HT.sIx xs.length xs.length hi = xs.length) : cutG xs lo hi = xs := by
  unfold cutG
  rw [h.1, h.2, List.drop_zero, Nat.sub_zero, List.take_length]
def slD (a : D) (lo hi : Option Int) : Mo D := match a with
  | .tup xs => pure (.tup (cutG xs lo hi))
  | .lst xs => pure (.lst (cutG xs lo hi))
  | .str z => if z.length ≤ lim then pure (.str (cutS z lo hi)) else Mo.fail
  | _ => Mo.fail
abbrev rSlD (K : PySem.W.Frag) : V → Option Int → Option Int → Hp → VK → Prop := fun x lo hi H Q => rSlA K x lo hi H Q ∨ rSlL K x lo hi H Q ∨ rSlS x lo hi H Q
theorem sl_D : SlR X (rSlD X.K) := sl_tupA.or (sl_list.or sl_str)
theorem sl_ok {x : V} {a : D} {lo hi : Option Int} {Q : VK} (w : Wf W F g H) (ra : Rep W F H x a) (p : PR W E (PQ W Q) F g H (slD a lo hi g)) : rSlD W.K x lo hi H Q := by
  cases ra with
  | tup h z r =>
    refine .inl ⟨_, _, rfl, h, fun c => ?_, fun c q hq => ?_⟩
    · rw [r.length] at c
      have p : PR W E (PQ W Q) F g H ((pure (.tup (cutG _ lo hi)) : Mo D) g) := p
      rw [cutG_whole c] at p
      exact pq_pure w p (.tup h z r)
    · exact pq_tup w p (r.cut lo hi) (Nat.le_trans (cutG_length _ _ _) z) hq
  | lst f h z r => exact .inr (.inl ⟨_, _, rfl, .inl (.inl h), fun q hq => pq_lst w p (r.cut lo hi) (Nat.le_trans (cutG_length _ _ _) z) hq⟩)
  | str z =>
    obtain ⟨hz, p⟩ := pr_if p
    exact .inr (.inr ⟨z, rfl, lim_le hz, pq_pure w p (.str _)⟩)
  | _ => exact p.elim
theorem de_slice {e : Expr} {lo hi : Option Expr} {fe : Ev → Mo D} {fl fh : Ev → Mo (Option Int)} {p2 pos : Pos} (hK : X.K = W.K) (he : PE X e (tE W E fe)) (hl : PO X lo (tO W E fl)) (hu : PO X hi (tO W E fh)) :
    PE X (.Subscript e (.Slice lo hi none p2) pos) (tE W E fun env => do let a ← fe env; let l ← fl env; let u ← fh env; slD a l u) :=
  (pe_slice (hK ▸ sl_D) he hl hu).imp fun σ H Q ⟨F, g, env, s, p⟩ => ⟨F, g, env, s, p.bnd fun a F1 g1 H1 x1 p1 v rv => ⟨F1, g1, env, s.ext x1, p1.bnd fun l F2 g2 H2 x2 p2 =>
    ⟨F2, g2, env, (s.ext x1).ext x2, p2.bnd fun u F3 g3 H3 x3 p3 => sl_ok x3.wf ((rv.ext x2 x1.wf).ext x3 x2.wf) p3⟩⟩⟩

/-! ### calls of built-ins, by values -/
def AdqL (W : Wd) (E : XK) (f : List D → Mo D) (r : List V → Hp → VK → Prop) : Prop := ∀ F g H vs ds Q, Wf W F g H → RepL W F H vs ds → PR W E (PQ W Q) F g H (f ds g) → r vs H Q
theorem tCB_imp {r : List V → Hp → VK → Prop} {f : List D → Mo D} {fs : Ev → Mo (List D)} (h : AdqL W E f r) : ∀ σ H Q, tE W E (fun env => do let as ← fs env; f as) σ H Q → tCB r (tA W E fs) σ H Q :=
  fun σ H Q ⟨F, g, env, s, p⟩ => ⟨F, g, env, s, p.bnd fun as F1 g1 H1 x1 p1 vs rs => h F1 g1 H1 vs as Q x1.wf rs p1⟩
theorem de_callB {id : String} {x : Str} {p pos : Pos} {e : Expr} {es : List Expr} {r : List V → Hp → VK → Prop} {f : List D → Mo D} {fs : Ev → Mo (List D)} (hc : CallR X (.builtin id) r) (h : AdqL W E f r) (hg : Gl X x) (hm : X.mg x = none) (hv : bootBuiltins x = some (.builtin id))
    (ha : PA X (e :: es) (tA W E fs)) (hn : x ≠ "__name__") (hdb : (x == ("__debug__" : Str)) = false) (he : starEach (e :: es) X.env = (false, eval e X.env) :: starEach es X.env) (hpl : (backTo pos (starEach es X.env)).any (·.1) = false) :
    PE X (.Call (.Name x p) (e :: es) [] pos) (tE W E fun env => do let as ← fs env; f as) := (pe_callB hc hg hm hv ha hn hdb he hpl).imp (tCB_imp h)
theorem de_callTy {T : String} {x : Str} {p pos : Pos} {e : Expr} {es : List Expr} {r : List V → Hp → VK → Prop} {f : List D → Mo D} {fs : Ev → Mo (List D)} (hc : CallR X (.type T) r) (h : AdqL W E f r) (hg : Gl X x) (hm : X.mg x = none) (hv : bootBuiltins x = some (.type T))
    (ha : PA X (e :: es) (tA W E fs)) (hn : x ≠ "__name__") (hdb : (x == ("__debug__" : Str)) = false) (he : starEach (e :: es) X.env = (false, eval e X.env) :: starEach es X.env) (hpl : (backTo pos (starEach es X.env)).any (·.1) = false) :
    PE X (.Call (.Name x p) (e :: es) [] pos) (tE W E fun env => do let as ← fs env; f as) := (pe_callTy hc hg hm hv ha hn hdb he hpl).imp (tCB_imp h)
theorem de_callBf {id : String} {x : Str} {p pos : Pos} {e : Expr} {es : List Expr} {r : List V → Hp → VK → Prop} {f : List D → Mo D} {fs : Ev → Mo (List D)} (hc : CallR X (.builtin id) r) (h : AdqL W E f r) (hg : Gl X x) (hm : X.mg x = some (.builtin id))
    (ha : PA X (e :: es) (tA W E fs)) (hdb : (x == ("__debug__" : Str)) = false) (he : starEach (e :: es) X.env = (false, eval e X.env) :: starEach es X.env) (hpl : (backTo pos (starEach es X.env)).any (·.1) = false) :
    PE X (.Call (.Name x p) (e :: es) [] pos) (tE W E fun env => do let as ← fs env; f as) := (pe_callBfun hc hg hm ha hdb he hpl).imp (tCB_imp h)

def lenO : D → Option Nat
  | .str x => if x.length ≤ lim then some x.length else none
  | .tup xs => some xs.length
  | .lst xs => some xs.length
  | .scr ns => some ns.length
  | _ => none
def lenD : List D → Mo D
  | [x] => Mo.of ((lenO x).map fun n : Nat => D.int (n : Int))
  | _ => Mo.fail
theorem scr_sql {a : Addr} {ns : List Int} (h : (F a ∧ Rd H a (.lst (ns.map V.int))) ∨ SqL W.K (fun _ => none) a (ns.map V.int)) : SqL W.K H a (ns.map V.int) := by
  rcases h with h | (h | ⟨o, h⟩) | h
  · exact .inl h.2
  · cases h
  · cases h
  · exact .inr h
theorem adq_len : AdqL W E lenD (fun xs H Q => ∃ x n, xs = [x] ∧ LenV W.K x H n ∧ Q (.int n) H) := by
  intro F g H vs ds Q w rs p
  match ds, rs with
  | [d], .cons r .nil =>
    obtain ⟨d', e, q⟩ := PR.of w p
    obtain ⟨n, e1, e2⟩ := Option.map_eq_some_iff.mp e
    subst e2
    refine ⟨_, n, rfl, ?_, q _ (.int _)⟩
    cases r with
    | str x =>
      have e1 : (if x.length ≤ lim then some x.length else none) = some n := e1
      by_cases c : x.length ≤ lim
      · rw [if_pos c] at e1
        exact ⟨lim_le c, (Option.some.inj e1).symm⟩
      · rw [if_neg c] at e1; cases e1
    | tup h z t => exact .inr ⟨_, h, by rw [t.length]; exact (Option.some.inj e1).symm⟩
    | lst f h z t => exact .inl ⟨_, .inl (.inl h), by rw [t.length]; exact (Option.some.inj e1).symm⟩
    | scr h z => exact .inl ⟨_, scr_sql h, by rw [List.length_map]; exact (Option.some.inj e1).symm⟩
    | _ => cases e1
  | [], .nil => exact p.elim
  | _ :: _ :: _, .cons _ (.cons _ _) => exact p.elim
def oneO : List D → Option D
  | [x] => some x
  | _ => none
theorem oneO_rep {ds : List D} {d : D} {vs : List V} (e : oneO ds = some d) (r : RepL W F H vs ds) : ∃ v, vs = [v] ∧ Rep W F H v d := by
  match ds, r with
  | [x], .cons r .nil => cases e; exact ⟨_, rfl, r⟩
  | [], .nil => cases e
  | _ :: _ :: _, .cons _ (.cons _ _) => cases e
def absD (ds : List D) : Mo D := match oneO ds with
  | some (.int i) => pure (.int (if i < 0 then -i else i))
  | _ => Mo.fail
theorem adq_abs : AdqL W E absD (fun xs H Q => ∃ i, xs = [.int i] ∧ Q (.int (if i < 0 then -i else i)) H) := by
  intro F g H vs ds Q w rs p
  unfold absD at p
  cases e : oneO ds with
  | none => rw [e] at p; exact p.elim
  | some d =>
    obtain ⟨v, rfl, r⟩ := oneO_rep e rs
    rw [e] at p
    cases r with
    | int i => exact ⟨i, rfl, pq_pure w p (.int _)⟩
    | _ => exact p.elim
def intD (ds : List D) : Mo D := match oneO ds with
  | some (.int i) => pure (.int i)
  | some (.bl b) => pure (.int (if b then 1 else 0))
  | _ => Mo.fail
theorem adq_int : AdqL W E intD (fun xs H Q => (∃ i, xs = [.int i] ∧ Q (.int i) H) ∨ ∃ k, xs = [.bl k] ∧ Q (.int (if k then 1 else 0)) H) := by
  intro F g H vs ds Q w rs p
  unfold intD at p
  cases e : oneO ds with
  | none => rw [e] at p; exact p.elim
  | some d =>
    obtain ⟨v, rfl, r⟩ := oneO_rep e rs
    rw [e] at p
    cases r with
    | int i => exact .inl ⟨i, rfl, pq_pure w p (.int _)⟩
    | bl i => exact .inr ⟨i, rfl, pq_pure w p (.int _)⟩
    | _ => exact p.elim
def min2D : List D → Mo D
  | [.int i, .int j] => pure (.int (if j < i then j else i))
  | _ => Mo.fail
def max2D : List D → Mo D
  | [.int i, .int j] => pure (.int (if j > i then j else i))
  | _ => Mo.fail
def gcdD : List D → Mo D
  | [.int i, .int j] => pure (.int ((Nat.gcd i.natAbs j.natAbs : Nat) : Int))
  | _ => Mo.fail
theorem two_ints {f : Int → Int → D} {r : List V → Hp → VK → Prop} {ff : List D → Mo D} (h2 : ∀ i j, ff [.int i, .int j] = pure (f i j)) (hn : ∀ ds, (∀ i j, ds ≠ [.int i, .int j]) → ff ds = Mo.fail)
    (k : ∀ F g (H : Hp) i j Q, Wf W F g H → PR W E (PQ W Q) F g H ((pure (f i j) : Mo D) g) → r [.int i, .int j] H Q) : AdqL W E ff r := by
  intro F g H vs ds Q w rs p
  by_cases c : ∃ i j, ds = [.int i, .int j]
  · obtain ⟨i, j, rfl⟩ := c
    match rs with
    | .cons (.int _) (.cons (.int _) .nil) =>
      rw [h2] at p
      exact k F g H i j Q w p
  · rw [hn ds fun i j e => c ⟨i, j, e⟩] at p
    exact p.elim
theorem adq_min2 : AdqL W E min2D (fun xs H Q => ∃ i j, xs = [.int i, .int j] ∧ Q (.int (if j < i then j else i)) H) :=
  two_ints (f := fun i j => .int (if j < i then j else i)) (fun _ _ => rfl) (fun ds h => by unfold min2D; split <;> first | (exact absurd rfl (h _ _)) | rfl) fun F g H i j Q w p => ⟨i, j, rfl, pq_pure w p (.int _)⟩
theorem adq_max2 : AdqL W E max2D (fun xs H Q => ∃ i j, xs = [.int i, .int j] ∧ Q (.int (if j > i then j else i)) H) :=
  two_ints (f := fun i j => .int (if j > i then j else i)) (fun _ _ => rfl) (fun ds h => by unfold max2D; split <;> first | (exact absurd rfl (h _ _)) | rfl) fun F g H i j Q w p => ⟨i, j, rfl, pq_pure w p (.int _)⟩
theorem adq_gcd : AdqL W E gcdD rGcd :=
  two_ints (f := fun i j => .int ((Nat.gcd i.natAbs j.natAbs : Nat) : Int)) (fun _ _ => rfl) (fun ds h => by unfold gcdD; split <;> first | (exact absurd rfl (h _ _)) | rfl) fun F g H i j Q w p => ⟨i, j, rfl, pq_pure w p (.int _)⟩
/-! lists of truths, of numbers, of texts -/
def blsO : List D → Option (List Bool)
  | [] => some []
  | .bl b :: r => (blsO r).map (b :: ·)
  | _ => none
theorem blsO_eq : ∀ {ds : List D} {bs : List Bool}, blsO ds = some bs → ds = bs.map D.bl
  | [], _, e => by cases e; rfl
  | .bl b :: r, bs, e => by
    obtain ⟨cs, e1, e2⟩ := Option.map_eq_some_iff.mp (show (blsO r).map (b :: ·) = some bs from e)
    subst e2
    rw [blsO_eq e1, List.map_cons]
  | .non :: _, _, e | .int _ :: _, _, e | .str _ :: _, _, e | .tup _ :: _, _, e | .lst _ :: _, _, e | .dnil :: _, _, e | .scr _ :: _, _, e | .ptr _ :: _, _, e | .exc _ :: _, _, e => by cases e
theorem blsO_map : ∀ bs : List Bool, blsO (bs.map D.bl) = some bs
  | [] => rfl
  | b :: r => by show (blsO (r.map D.bl)).map (b :: ·) = _; rw [blsO_map r]; rfl
def intsO : List D → Option (List Int)
  | [] => some []
  | .int b :: r => (intsO r).map (b :: ·)
  | _ => none
theorem intsO_eq : ∀ {ds : List D} {bs : List Int}, intsO ds = some bs → ds = bs.map D.int
  | [], _, e => by cases e; rfl
  | .int b :: r, bs, e => by
    obtain ⟨cs, e1, e2⟩ := Option.map_eq_some_iff.mp (show (intsO r).map (b :: ·) = some bs from e)
    subst e2
    rw [intsO_eq e1, List.map_cons]
  | .non :: _, _, e | .bl _ :: _, _, e | .str _ :: _, _, e | .tup _ :: _, _, e | .lst _ :: _, _, e | .dnil :: _, _, e | .scr _ :: _, _, e | .ptr _ :: _, _, e | .exc _ :: _, _, e => by cases e
theorem intsO_map : ∀ bs : List Int, intsO (bs.map D.int) = some bs
  | [] => rfl
  | b :: r => by show (intsO (r.map D.int)).map (b :: ·) = _; rw [intsO_map r]; rfl
def strsO : List D → Option (List Str)
  | [] => some []
  | .str b :: r => (strsO r).map (b :: ·)
  | _ => none
theorem strsO_eq : ∀ {ds : List D} {bs : List Str}, strsO ds = some bs → ds = bs.map D.str
  | [], _, e => by cases e; rfl
  | .str b :: r, bs, e => by
    obtain ⟨cs, e1, e2⟩ := Option.map_eq_some_iff.mp (show (strsO r).map (b :: ·) = some bs from e)
    subst e2
    rw [strsO_eq e1, List.map_cons]
  | .non :: _, _, e | .bl _ :: _, _, e | .int _ :: _, _, e | .tup _ :: _, _, e | .lst _ :: _, _, e | .dnil :: _, _, e | .scr _ :: _, _, e | .ptr _ :: _, _, e | .exc _ :: _, _, e => by cases e
theorem strsO_map : ∀ bs : List Str, strsO (bs.map D.str) = some bs
  | [] => rfl
  | b :: r => by show (strsO (r.map D.str)).map (b :: ·) = _; rw [strsO_map r]; rfl
def lstO : D → Option (List D)
  | .lst xs => some xs
  | _ => none
theorem lstO_rep {x : D} {xs : List D} {v : V} (e : lstO x = some xs) (r : Rep W F H v x) : ∃ a vs, v = .ref a ∧ F a ∧ H a = some (.lst vs) ∧ xs.length ≤ sizeLine ∧ RepL W F H vs xs := by
  cases r with
  | lst f h z t => cases e; exact ⟨_, _, rfl, f, h, z, t⟩
  | _ => cases e
def allD (ds : List D) : Mo D := Mo.of ((oneO ds).bind lstO |>.bind blsO |>.map fun bs => .bl (bs.all id))
def anyD (ds : List D) : Mo D := Mo.of ((oneO ds).bind lstO |>.bind blsO |>.map fun bs => .bl (bs.any id))
def sumD (ds : List D) : Mo D := Mo.of ((oneO ds).bind lstO |>.bind intsO |>.map fun ns => .int ns.sum)
theorem adq_all : AdqL W E allD (rAll W.K) := by
  intro F g H vs ds Q w rs p
  obtain ⟨d, e, q⟩ := PR.of w p
  obtain ⟨bs, e1, e2⟩ := Option.map_eq_some_iff.mp e
  obtain ⟨l, e3, e4⟩ := Option.bind_eq_some_iff.mp e1
  obtain ⟨y, e5, e6⟩ := Option.bind_eq_some_iff.mp e3
  obtain ⟨v, rfl, r⟩ := oneO_rep e5 rs
  obtain ⟨a, ws, rfl, _, h, _, rr⟩ := lstO_rep e6 r
  rw [blsO_eq e4] at rr
  subst e2
  exact ⟨a, bs, rfl, .inl (.inl (by rw [h, rr.bls])), q _ (.bl _)⟩
theorem adq_any : AdqL W E anyD (rAny W.K) := by
  intro F g H vs ds Q w rs p
  obtain ⟨d, e, q⟩ := PR.of w p
  obtain ⟨bs, e1, e2⟩ := Option.map_eq_some_iff.mp e
  obtain ⟨l, e3, e4⟩ := Option.bind_eq_some_iff.mp e1
  obtain ⟨y, e5, e6⟩ := Option.bind_eq_some_iff.mp e3
  obtain ⟨v, rfl, r⟩ := oneO_rep e5 rs
  obtain ⟨a, ws, rfl, _, h, _, rr⟩ := lstO_rep e6 r
  rw [blsO_eq e4] at rr
  subst e2
  exact ⟨a, bs, rfl, .inl (.inl (by rw [h, rr.bls])), q _ (.bl _)⟩
theorem adq_sum : AdqL W E sumD (rSum W.K) := by
  intro F g H vs ds Q w rs p
  obtain ⟨d, e, q⟩ := PR.of w p
  obtain ⟨bs, e1, e2⟩ := Option.map_eq_some_iff.mp e
  obtain ⟨l, e3, e4⟩ := Option.bind_eq_some_iff.mp e1
  obtain ⟨y, e5, e6⟩ := Option.bind_eq_some_iff.mp e3
  obtain ⟨v, rfl, r⟩ := oneO_rep e5 rs
  obtain ⟨a, ws, rfl, _, h, _, rr⟩ := lstO_rep e6 r
  rw [intsO_eq e4] at rr
  subst e2
  exact ⟨a, bs, rfl, .inl (.inl (by rw [h, rr.ints])), q _ (.int _)⟩
/-! sorted -/
def alikeB (ds : List PyData) : Bool := ds.all fun x => ds.all fun y => PySem.W.alike x y
def sortB (ds : List PyData) : Bool := (ds.all fun d => match d with
    | .tuple (_ :: _) => true
    | _ => false) || ds.all fun d => match d with
    | .none => false
    | .tuple _ => false
    | _ => true
theorem alikeB_ok {ds : List PyData} (h : alikeB ds = true) : PySem.W.AllAlike ds := fun d hd d' hd' => List.all_eq_true.mp (List.all_eq_true.mp h d hd) d' hd'
theorem sortB_ok {ds : List PyData} (h : sortB ds = true) : PySem.W.Sortable ds := by
  rcases Bool.or_eq_true_iff.mp h with h | h
  · refine .inl fun d hd => ?_
    have q := List.all_eq_true.mp h d hd
    match d, q with
    | .tuple (x :: r), _ => exact ⟨x, r, rfl⟩
  · refine .inr fun d hd => ?_
    have q := List.all_eq_true.mp h d hd
    refine ⟨fun e => ?_, fun xs e => ?_⟩ <;> rw [e] at q <;> cases q
def srt {α : Type} (xs : List α) (ds : List PyData) : List α := ((xs.zip ds).mergeSort (PySem.W.dataLe false (·.2))).map (·.1)
def okSort (ds : List PyData) : Bool := alikeB ds && sortB ds && ds.all fun d => SeqAt.shaped d
def sortedD (ds : List D) : Mo D := match oneO ds with
  | some (.lst xs) => match toPyL xs with
    | some ys => if okSort ys = true then pure (.lst (srt xs ys)) else Mo.fail
    | none => Mo.fail
  | some (.tup xs) => Mo.fail
  | _ => Mo.fail
def rSortD (K : PySem.W.Frag) : List V → Hp → VK → Prop := fun xs H Q => ∃ a vs ds, xs = [V.ref a] ∧ SqL K H a vs ∧ DpAll K H vs ds ∧ okSort ds = true ∧ ∀ p, H p = none → Q (.ref p) (upd H p (.lst (srt vs ds)))
theorem dpAll_length {K : PySem.W.Frag} : ∀ {vs : List V} {ds : List PyData}, DpAll K H vs ds → vs.length = ds.length
  | _, _, .nil => rfl
  | _, _, .cons _ t => by rw [List.length_cons, List.length_cons, dpAll_length t]
theorem srt_length {α : Type} {xs : List α} {ds : List PyData} (h : xs.length = ds.length) : (srt xs ds).length = xs.length := by
  unfold srt
  rw [List.length_map, List.length_mergeSort, List.length_zip, h, Nat.min_self]
theorem each_zip {s : Shared} {pins : List (Addr × Obj)} {σ : St} (I : Inv X pins σ H s) : ∀ {vs : List V} {ds : List PyData} {us : List Value}, DpAll X.K H vs ds → Vals vs us →
    PySem.W.EachIs (fun u (b : V × PyData) => RelV b.1 u) us (vs.zip ds) ∧ PySem.W.EachIs (fun u (b : V × PyData) => ∃ as, Reads s.heap u b.2 as) us (vs.zip ds)
  | _, _, _, .nil, .nil => ⟨.nil, .nil⟩
  | _, _, _, .cons d t, .cons r q => by
    obtain ⟨h1, h2⟩ := each_zip I t q
    obtain ⟨as, ra⟩ := Dp.reads I _ _ _ d r
    exact ⟨.cons r h1, .cons ⟨as, ra⟩ h2⟩
theorem vals_each : ∀ {us : List Value} {bs : List (V × PyData)}, PySem.W.EachIs (fun u (b : V × PyData) => RelV b.1 u) us bs → Vals (bs.map (·.1)) us
  | _, _, .nil => .nil
  | _, _, .cons r t => .cons r (vals_each t)
theorem zip_snd {α : Type} : ∀ {vs : List α} {ds : List PyData}, vs.length = ds.length → (vs.zip ds).map (·.2) = ds
  | [], [], _ => rfl
  | [], _ :: _, h => by cases h
  | _ :: _, [], h => by cases h
  | v :: vs, d :: ds, h => by rw [List.zip_cons_cons, List.map_cons, zip_snd (by simpa using h)]
theorem cr_sortedD (hu : X.A.units + 70 < cLine) : CallR X (.builtin "sorted") (rSortD X.K) := by
  intro pins s σ H xs us Q I r h
  obtain ⟨a, vs, ds, rfl, hs, hd, hok, q⟩ := h
  obtain ⟨its, rv, hl, hz⟩ := I.list hs
  rw [Vals.ref1 r]
  have hok' := Bool.and_eq_true_iff.mp (show (alikeB ds && sortB ds && ds.all fun d => SeqAt.shaped d) = true from hok)
  have hok2 := Bool.and_eq_true_iff.mp hok'.1
  obtain ⟨e1, e2⟩ := each_zip I hd rv
  have hlen := dpAll_length hd
  have hsn : (vs.zip ds).map (·.2) = ds := zip_snd hlen
  refine PySem.W.sorted_data (enc := fun b : V × PyData => b.2) hl.isList e1 e2 (by rw [hsn]; exact alikeB_ok hok2.1) (by rw [hsn]; exact sortB_ok hok2.2) (by rw [List.length_zip, hlen, Nat.min_self, ← hlen]; exact hz) (fun b hb => ?_) (fun out h1 h2 => ?_)
  · have hm : b.2 ∈ ds := by rw [← hsn]; exact List.mem_map.mpr ⟨b, hb, rfl⟩
    have := SeqAt.depth_of_shaped (List.all_eq_true.mp hok'.2 _ hm)
    omega
  · obtain ⟨ep, he'⟩ := PyProof.Rows.sortedAll_at s.heap its out.toArray
    have hv : Vals (srt vs ds) out := vals_each h2
    have hlen2 : (srt vs ds).length ≤ sizeLine := by rw [srt_length hlen]; exact hz
    exact ⟨.ref _, upd H (s.heap.objs.size + 1) (.lst (srt vs ds)), I.laid (t' := s.toks) (fun _ _ => PyProof.Rows.sortedAll_old) (Nat.le_succ _) ⟨hlen2, out, ep, hv, he'⟩, rfl, q _ (I.hok.fresh (Nat.le_succ _))⟩
theorem repL_map {α : Type} (f : α → V) (k : α → D) : ∀ {l : List α}, (∀ a, a ∈ l → Rep W F H (f a) (k a)) → RepL W F H (l.map f) (l.map k)
  | [], _ => .nil
  | a :: l, h => .cons (h a (List.mem_cons_self ..)) (repL_map f k fun b hb => h b (List.mem_cons_of_mem _ hb))
theorem repL_zip3 : ∀ {vs : List V} {xs : List D} {ds : List PyData}, RepL W F H vs xs → xs.length = ds.length →
    ∃ l : List (V × D × PyData), l.map (fun t => (t.1, t.2.2)) = vs.zip ds ∧ l.map (fun t => (t.2.1, t.2.2)) = xs.zip ds ∧ ∀ t, t ∈ l → Rep W F H t.1 t.2.1
  | _, _, [], .nil, _ => ⟨[], rfl, rfl, fun _ h => by cases h⟩
  | _, _, d :: ds, .cons (v := v) (d := x) r t, h => by
    obtain ⟨l, h1, h2, h3⟩ := repL_zip3 t (by simpa using h)
    refine ⟨(v, x, d) :: l, by simp [h1], by simp [h2], fun t ht => ?_⟩
    rcases List.mem_cons.mp ht with e | e
    · rw [e]; exact r
    · exact h3 t e
  | _, _, [], .cons _ _, h => by cases h
theorem RepL.srt {vs : List V} {xs : List D} {ds : List PyData} (r : RepL W F H vs xs) (h : xs.length = ds.length) : RepL W F H (TL.srt vs ds) (TL.srt xs ds) := by
  obtain ⟨l, h1, h2, h3⟩ := repL_zip3 r h
  unfold TL.srt
  rw [← h1, ← h2, ← List.map_mergeSort (f := fun t : V × D × PyData => (t.1, t.2.2)) (r := PySem.W.dataLe false (fun t : V × D × PyData => t.2.2)) (fun _ _ _ _ => rfl),
    ← List.map_mergeSort (f := fun t : V × D × PyData => (t.2.1, t.2.2)) (r := PySem.W.dataLe false (fun t : V × D × PyData => t.2.2)) (fun _ _ _ _ => rfl), List.map_map, List.map_map]
  exact repL_map _ _ fun t ht => h3 t (List.mem_mergeSort.mp ht)
theorem toPyL_length : ∀ {xs : List D} {ds : List PyData}, toPyL xs = some ds → xs.length = ds.length
  | [], _, e => by cases e; rfl
  | x :: xs, ds, e => by
    have e : (match toPy x, toPyL xs with
      | some y, some ys => some (y :: ys)
      | _, _ => none) = some ds := e
    cases h1 : toPy x with
    | none => rw [h1] at e; cases e
    | some y =>
      cases h2 : toPyL xs with
      | none => rw [h1, h2] at e; cases e
      | some zs => rw [h1, h2] at e; cases e; rw [List.length_cons, List.length_cons, toPyL_length h2]
theorem adq_sorted : AdqL W E sortedD (rSortD W.K) := by
  intro F g H vs ds Q w rs p
  unfold sortedD at p
  cases e : oneO ds with
  | none => rw [e] at p; exact p.elim
  | some d =>
    obtain ⟨v, rfl, r⟩ := oneO_rep e rs
    rw [e] at p
    cases r with
    | lst f h z t =>
      rename_i a ws xs
      have p : PR W E (PQ W Q) F g H ((match toPyL xs with
        | some ys => if okSort ys = true then pure (.lst (srt xs ys)) else Mo.fail
        | none => Mo.fail : Mo D) g) := p
      cases h1 : toPyL xs with
      | none => rw [h1] at p; exact p.elim
      | some ys =>
        rw [h1] at p
        obtain ⟨c, p⟩ := pr_if p
        exact ⟨_, _, ys, rfl, .inl (.inl h), t.dp h1, c, fun q hq => pq_lst w p (t.srt (toPyL_length h1)) (by rw [srt_length (toPyL_length h1)]; exact z) hq⟩
    | _ => exact p.elim
def tupleD (ds : List D) : Mo D := match oneO ds with
  | some (.lst xs) => pure (.tup xs)
  | some (.tup xs) => pure (.tup xs)
  | _ => Mo.fail
def listD (ds : List D) : Mo D := match oneO ds with
  | some (.lst xs) => pure (.lst xs)
  | some (.tup xs) => pure (.lst xs)
  | some (.str x) => if x.cps.size ≤ 1000 then pure (.lst (x.cps.toList.map fun c => .str ⟨#[c]⟩)) else Mo.fail
  | _ => Mo.fail
theorem adq_tuple : AdqL W E tupleD (fun xs H Q => ∃ p ys, xs = [.ref p] ∧ ((SqL W.K H p ys ∧ ∀ l, H l = none → Q (.ref l) (upd H l (.tup ys))) ∨ (SqT W.K H p ys ∧ Q (.ref p) H))) := by
  intro F g H vs ds Q w rs p
  unfold tupleD at p
  cases e : oneO ds with
  | none => rw [e] at p; exact p.elim
  | some d =>
    obtain ⟨v, rfl, r⟩ := oneO_rep e rs
    rw [e] at p
    cases r with
    | lst f h z t => exact ⟨_, _, rfl, .inl ⟨.inl (.inl h), fun l hl => pq_tup w p t z hl⟩⟩
    | tup h z t => exact ⟨_, _, rfl, .inr ⟨h, pq_pure w p (.tup h z t)⟩⟩
    | _ => exact p.elim
theorem call_list_strD (hc : X.calm = true) : CallR X (.type "list") (fun xs H Q => ∃ x, xs = [.str x] ∧ x.cps.size ≤ 1000 ∧ ∀ l, H l = none → Q (.ref l) (upd H l (.lst (x.cps.toList.map fun c => .str ⟨#[c]⟩)))) := by
  intro pins s σ H xs us Q I r h
  obtain ⟨x, rfl, hz, q⟩ := h
  obtain ⟨u, rfl, t, rfl⟩ := vals1 r
  refine PySem.call_list_str (I.ok.hd hc) x t (fun h' tk acc' c' kp ho hi => ?_) (Nat.le_trans hz (by decide))
  have hv : Vals (x.cps.toList.map fun c => V.str ⟨#[c]⟩) acc'.toList := by
    obtain ⟨h1, h2⟩ := hi
    refine vals_of_at (by rw [List.length_map, Array.length_toList, Array.length_toList, h1]) fun j y u e1 e2 => ?_
    obtain ⟨c, tu, e3, e4⟩ := h2 j u (by rw [← Array.getElem?_toList]; exact e2)
    rw [List.getElem?_map, Array.getElem?_toList, e3] at e1
    have e1 : V.str ⟨#[c]⟩ = y := Option.some.inj e1
    rw [← e1]
    exact ⟨tu, e4⟩
  exact ⟨.ref s.heap.objs.size, _, I.laid (t' := tk) kp (Nat.le_refl _) (show ObjOk X.prog X.w _ h' _ (.lst _) from ⟨by rw [List.length_map, Array.length_toList]; exact Nat.le_trans hz (by decide), acc'.toList, c', hv, by simpa using ho⟩), rfl, q _ (I.hok.fresh (Nat.le_refl _))⟩
def rListX (K : PySem.W.Frag) : List V → Hp → VK → Prop := fun xs H Q => (∃ p ys, xs = [.ref p] ∧ (SqL K H p ys ∨ SqT K H p ys) ∧ ∀ l, H l = none → Q (.ref l) (upd H l (.lst ys))) ∨
  ∃ x, xs = [.str x] ∧ x.cps.size ≤ 1000 ∧ ∀ l, H l = none → Q (.ref l) (upd H l (.lst (x.cps.toList.map fun c => .str ⟨#[c]⟩)))
theorem call_listX (hc : X.calm = true) : CallR X (.type "list") (rListX X.K) := call_list_of.or (call_list_strD hc)
theorem adq_list : AdqL W E listD (rListX W.K) := by
  intro F g H vs ds Q w rs p
  unfold listD at p
  cases e : oneO ds with
  | none => rw [e] at p; exact p.elim
  | some d =>
    obtain ⟨v, rfl, r⟩ := oneO_rep e rs
    rw [e] at p
    cases r with
    | lst f h z t => exact .inl ⟨_, _, rfl, .inl (.inl (.inl h)), fun l hl => pq_lst w p t z hl⟩
    | tup h z t => exact .inl ⟨_, _, rfl, .inr h, fun l hl => pq_lst w p t z hl⟩
    | str x =>
      obtain ⟨c, p⟩ := pr_if p
      have rr : ∀ l : List Nat, RepL W F H (l.map fun c => .str ⟨#[c]⟩) (l.map fun c => .str ⟨#[c]⟩) := fun l => by
        induction l with
        | nil => exact .nil
        | cons a l ih => exact .cons (.str _) ih
      exact .inr ⟨x, rfl, c, fun l hl => pq_lst w p (rr _) (by rw [List.length_map, Array.length_toList]; exact Nat.le_trans c (by decide)) hl⟩
    | _ => exact p.elim
end
end TL
end

-- text TlE
section
set_option maxHeartbeats 4000000
set_option autoImplicit false
namespace TL
open PySem PySem.Spec L2
open PyProof.Rows hiding St
section
variable {W : Wd} {X : Cx} {E : XK} {F : Fz} {g : G} {H : Hp}
/-! ### tests -/
def blO : D → Option Bool
  | .bl b => some b
  | _ => none
theorem blO_rep {d : D} {b : Bool} {v : V} (e : blO d = some b) (r : Rep W F H v d) : v = .bl b := by
  cases r <;> first | (cases e; rfl) | cases e
def toB (d : D) : Mo Bool := Mo.of (blO d)
theorem tE_test {fe : Ev → Mo D} : ∀ σ H Q, tT W E (fun env => do let d ← fe env; toB d) σ H Q → tE W E fe σ H (fun v H' => ∃ k, v = .bl k ∧ Q k H') :=
  fun σ H Q ⟨F, g, env, s, p⟩ => ⟨F, g, env, s, p.bnd fun d F1 g1 H1 x1 p1 v rv => by
    obtain ⟨b, e, q⟩ := PR.of x1.wf p1
    exact ⟨b, blO_rep e rv, q⟩⟩
theorem dt_test {e : Expr} {t : TE} {fe : Ev → Mo D} (h : PT X e (tTest t)) (hi : ∀ σ H Q, tE W E fe σ H Q → t σ H Q) : PT X e (tT W E fun env => do let d ← fe env; toB d) :=
  h.imp fun σ H Q p => hi σ H _ (tE_test σ H Q p)
theorem dt_cmp {op : CmpOp} {r : R2} {f : D → D → Mo D} {fa fb : Ev → Mo D} {a b : Expr} {pos : Pos} (ho : OpR X (compareOp op) r) (h : Adq2 W E f r) (ha : PE X a (tE W E fa)) (hb : PE X b (tE W E fb)) (hm : behindInMarks op b = false) :
    PT X (.Compare a [op] [b] pos) (tT W E fun env => do let d ← (do let a ← fa env; let b ← fb env; f a b); toB d) := dt_test (pt_cmpR ho ha hb hm) (tOp_imp h)
/-- a op b op' c -/
def chD (f f' : D → D → Mo D) (a b : D) (c : Mo D) : Mo D := do
  let k ← toB (← f a b)
  if k = true then f' b (← c) else pure (.bl false)
theorem tChain_imp {r r' : R2} {f f' : D → D → Mo D} {fa fb fc : Ev → Mo D} (h : Adq2 W E f r) (h' : Adq2 W E f' r') : ∀ σ H Q, tE W E (fun env => do let a ← fa env; let b ← fb env; chD f f' a b (fc env)) σ H Q → tChain r r' (tE W E fa) (tE W E fb) (tE W E fc) σ H Q :=
  fun σ H Q ⟨F, g, env, s, p⟩ => ⟨F, g, env, s, p.bnd fun a F1 g1 H1 x1 p1 v rv => ⟨F1, g1, env, s.ext x1, p1.bnd fun b F2 g2 H2 x2 p2 u ru => by
    refine h F2 g2 H2 v u a b _ x2.wf (rv.ext x2 x1.wf) ru (p2.bnd fun d F3 g3 H3 x3 p3 z rz => ?_)
    obtain ⟨k, e, q⟩ := PR.of x3.wf (PR.bind p3)
    refine ⟨k, blO_rep e rz, ?_⟩
    cases k with
    | true =>
      rw [if_pos rfl] at q ⊢
      exact ⟨F3, g3, env, ((s.ext x1).ext x2).ext x3, q.bnd fun c F4 g4 H4 x4 p4 w rw' => h' F4 g4 H4 u w b c Q x4.wf ((ru.ext x3 x2.wf).ext x4 x3.wf) rw' p4⟩
    | false =>
      rw [if_neg Bool.false_ne_true] at q ⊢
      exact pq_pure x3.wf q (.bl false)⟩⟩
theorem de_chain {op op' : CmpOp} {r r' : R2} {f f' : D → D → Mo D} {fa fb fc : Ev → Mo D} {a b c : Expr} {pos : Pos} (ho : OpR X (compareOp op) r) (ho' : OpR X (compareOp op') r') (h : Adq2 W E f r) (h' : Adq2 W E f' r')
    (ha : PE X a (tE W E fa)) (hb : PE X b (tE W E fb)) (hc : PE X c (tE W E fc)) (hm : lastMarks [op, op'] [b, c] = false) :
    PE X (.Compare a [op, op'] [b, c] pos) (tE W E fun env => do let a ← fa env; let b ← fb env; chD f f' a b (fc env)) := (pe_chain ho ho' ha hb hc hm).imp (tChain_imp h h')
theorem dt_chain {op op' : CmpOp} {r r' : R2} {f f' : D → D → Mo D} {fa fb fc : Ev → Mo D} {a b c : Expr} {pos : Pos} (ho : OpR X (compareOp op) r) (ho' : OpR X (compareOp op') r') (h : Adq2 W E f r) (h' : Adq2 W E f' r')
    (ha : PE X a (tE W E fa)) (hb : PE X b (tE W E fb)) (hc : PE X c (tE W E fc)) (hm : lastMarks [op, op'] [b, c] = false) :
    PT X (.Compare a [op, op'] [b, c] pos) (tT W E fun env => do let d ← (do let a ← fa env; let b ← fb env; chD f f' a b (fc env)); toB d) := dt_test (pt_chain ho ho' ha hb hc hm) (tChain_imp h h')
theorem dt_not {a : Expr} {ft : Ev → Mo Bool} {pos : Pos} (ha : PT X a (tT W E ft)) : PT X (.UnaryOp .Not a pos) (tT W E fun env => do let b ← ft env; pure (!b)) :=
  (pt_not ha).imp fun σ H Q ⟨F, g, env, s, p⟩ => ⟨F, g, env, s, p.bnd fun b F1 g1 H1 x1 p1 => p1 F1 H1 (Ext.refl x1.wf)⟩
def andT (a b : Mo Bool) : Mo Bool := do
  let k ← a
  if k = true then b else pure false
def orT (a b : Mo Bool) : Mo Bool := do
  let k ← a
  if k = true then pure true else b
theorem dw_and1 {a : Expr} {pos : Pos} {ft : Ev → Mo Bool} (ha : PT X a (tT W E ft)) : PW X (.BoolOp .And [a] pos) (tT W E ft) := pw_and1 ha
theorem dw_or1 {a : Expr} {pos : Pos} {ft : Ev → Mo Bool} (ha : PT X a (tT W E ft)) : PW X (.BoolOp .Or [a] pos) (tT W E ft) := pw_or1 ha
theorem dw_and {a b : Expr} {rest : List Expr} {pos : Pos} {fa fb : Ev → Mo Bool} (ha : PT X a (tT W E fa)) (hb : PW X (.BoolOp .And (b :: rest) pos) (tT W E fb)) : PW X (.BoolOp .And (a :: b :: rest) pos) (tT W E fun env => andT (fa env) (fb env)) :=
  (pw_and ha hb).imp fun σ H Q ⟨F, g, env, s, p⟩ => ⟨F, g, env, s, p.bnd fun k F1 g1 H1 x1 p1 => by
    cases k with
    | true =>
      rw [if_pos rfl] at p1 ⊢
      exact ⟨F1, g1, env, s.ext x1, p1⟩
    | false =>
      rw [if_neg Bool.false_ne_true] at p1 ⊢
      exact p1 F1 H1 (Ext.refl x1.wf)⟩
theorem dw_or {a b : Expr} {rest : List Expr} {pos : Pos} {fa fb : Ev → Mo Bool} (ha : PT X a (tT W E fa)) (hb : PW X (.BoolOp .Or (b :: rest) pos) (tT W E fb)) : PW X (.BoolOp .Or (a :: b :: rest) pos) (tT W E fun env => orT (fa env) (fb env)) :=
  (pw_or ha hb).imp fun σ H Q ⟨F, g, env, s, p⟩ => ⟨F, g, env, s, p.bnd fun k F1 g1 H1 x1 p1 => by
    cases k with
    | true =>
      rw [if_pos rfl] at p1 ⊢
      exact p1 F1 H1 (Ext.refl x1.wf)
    | false =>
      rw [if_neg Bool.false_ne_true] at p1 ⊢
      exact ⟨F1, g1, env, s.ext x1, p1⟩⟩
theorem dt_ifExp {c a b : Expr} {fc fa fb : Ev → Mo Bool} {pos : Pos} (hc : PT X c (tT W E fc)) (ha : PT X a (tT W E fa)) (hb : PT X b (tT W E fb)) : PT X (.IfExp c a b pos) (tT W E fun env => do let k ← fc env; if k = true then fa env else fb env) := by
  refine ⟨fun pins s σ H Q I h => ?_⟩
  obtain ⟨F, g, env, st, p⟩ := h
  refine isTrue_IfExp (thn (hc.run pins s σ H (fun k H1 => if k = true then tT W E fa σ H1 Q else tT W E fb σ H1 Q) I ⟨F, g, env, st, p.bnd fun k F1 g1 H1 x1 p1 => ?_⟩) fun d s1 ⟨H1, I1, q1⟩ => ?_)
  · cases k with
    | true => rw [if_pos rfl] at p1 ⊢; exact ⟨F1, g1, env, st.ext x1, p1⟩
    | false => rw [if_neg Bool.false_ne_true] at p1 ⊢; exact ⟨F1, g1, env, st.ext x1, p1⟩
  · cases d with
    | true => rw [if_pos rfl] at q1; exact ha.run pins s1 σ H1 Q I1 q1
    | false => rw [if_neg Bool.false_ne_true] at q1; exact hb.run pins s1 σ H1 Q I1 q1
/-! truth of a value -/
def truO : D → Option Bool
  | .non => some false
  | .bl b => some b
  | .int i => some (i != 0)
  | .str x => if x.length ≤ lim then some ((x.length : Int) != 0) else none
  | .tup xs => some (!xs.isEmpty)
  | .lst xs => some (!xs.isEmpty)
  | .dnil => some false
  | _ => none
theorem emptyRep {vs : List V} {ds : List D} (r : RepL W F H vs ds) : vs.isEmpty = ds.isEmpty := by
  cases r <;> rfl
theorem truO_rep {d : D} {k : Bool} {v : V} (e : truO d = some k) (r : Rep W F H v d) : TruV W.K v H k := by
  cases r with
  | non => cases e; rfl
  | bl b => cases e; rfl
  | int i => cases e; rfl
  | str x =>
    have e : (if x.length ≤ lim then some ((x.length : Int) != 0) else none) = some k := e
    by_cases c : x.length ≤ lim
    · rw [if_pos c] at e
      exact ⟨lim_le c, (Option.some.inj e).symm⟩
    · rw [if_neg c] at e; cases e
  | tup h z t => exact .inr (.inl ⟨_, h, by rw [emptyRep t]; exact (Option.some.inj e).symm⟩)
  | lst f h z t => exact .inl ⟨_, .inl (.inl h), by rw [emptyRep t]; exact (Option.some.inj e).symm⟩
  | dnil f h => exact .inr (.inr ⟨_, h, (Option.some.inj e).symm⟩)
  | _ => cases e
def truD (d : D) : Mo Bool := Mo.of (truO d)
theorem dt_truth {a : Expr} {fa : Ev → Mo D} (hK : X.K = W.K) (ha : PE X a (tE W E fa)) (he : ∀ whole, isTrue a X.env whole = (do let v ← whole; standAt a.pos; holding [v] (truthy v))) : PT X a (tT W E fun env => do let d ← fa env; truD d) :=
  (pt_truth ha he).imp fun σ H Q ⟨F, g, env, s, p⟩ => ⟨F, g, env, s, p.bnd fun d F1 g1 H1 x1 p1 v rv => by
    obtain ⟨k, e, q⟩ := PR.of x1.wf p1
    exact ⟨k, by rw [hK]; exact truO_rep e rv, q⟩⟩
/-! and, or, not as values; a if t else b -/
def andV (a b : Mo D) : Mo D := do
  let d ← a
  let k ← truD d
  if k = true then b else pure d
def orV (a b : Mo D) : Mo D := do
  let d ← a
  let k ← truD d
  if k = true then pure d else b
theorem de_one {op} {a : Expr} {pos : Pos} {f : Ev → Mo D} (h : PE X a (tE W E f)) : PE X (.BoolOp op [a] pos) (tE W E f) := pe_one h
theorem de_and {a b : Expr} {rest : List Expr} {pos : Pos} {fa fb : Ev → Mo D} (hK : X.K = W.K) (ha : PE X a (tE W E fa)) (hb : PE X (.BoolOp .And (b :: rest) pos) (tE W E fb)) : PE X (.BoolOp .And (a :: b :: rest) pos) (tE W E fun env => andV (fa env) (fb env)) :=
  (pe_andT ha hb).imp fun σ H Q ⟨F, g, env, s, p⟩ => ⟨F, g, env, s, p.bnd fun d F1 g1 H1 x1 p1 v rv => by
    obtain ⟨k, e, q⟩ := PR.of x1.wf (PR.bind p1)
    refine ⟨k, by rw [hK]; exact truO_rep e rv, ?_⟩
    cases k with
    | true => rw [if_pos rfl] at q ⊢; exact ⟨F1, g1, env, s.ext x1, q⟩
    | false => rw [if_neg Bool.false_ne_true] at q ⊢; exact pq_pure x1.wf q rv⟩
theorem de_or {a b : Expr} {rest : List Expr} {pos : Pos} {fa fb : Ev → Mo D} (hK : X.K = W.K) (ha : PE X a (tE W E fa)) (hb : PE X (.BoolOp .Or (b :: rest) pos) (tE W E fb)) : PE X (.BoolOp .Or (a :: b :: rest) pos) (tE W E fun env => orV (fa env) (fb env)) :=
  (pe_orT ha hb).imp fun σ H Q ⟨F, g, env, s, p⟩ => ⟨F, g, env, s, p.bnd fun d F1 g1 H1 x1 p1 v rv => by
    obtain ⟨k, e, q⟩ := PR.of x1.wf (PR.bind p1)
    refine ⟨k, by rw [hK]; exact truO_rep e rv, ?_⟩
    cases k with
    | true => rw [if_pos rfl] at q ⊢; exact pq_pure x1.wf q rv
    | false => rw [if_neg Bool.false_ne_true] at q ⊢; exact ⟨F1, g1, env, s.ext x1, q⟩⟩
theorem de_not {a : Expr} {pos : Pos} {fa : Ev → Mo D} (hK : X.K = W.K) (ha : PE X a (tE W E fa)) : PE X (.UnaryOp .Not a pos) (tE W E fun env => do let d ← fa env; let k ← truD d; pure (.bl (!k))) :=
  (pe_notT ha).imp fun σ H Q ⟨F, g, env, s, p⟩ => ⟨F, g, env, s, p.bnd fun d F1 g1 H1 x1 p1 v rv => by
    obtain ⟨k, e, q⟩ := PR.of x1.wf (PR.bind p1)
    exact ⟨k, by rw [hK]; exact truO_rep e rv, pq_pure x1.wf q (.bl _)⟩⟩
theorem de_ifExp {c a b : Expr} {fc : Ev → Mo Bool} {fa fb : Ev → Mo D} {pos : Pos} (hc : PT X c (tT W E fc)) (ha : PE X a (tE W E fa)) (hb : PE X b (tE W E fb)) : PE X (.IfExp c a b pos) (tE W E fun env => do let k ← fc env; if k = true then fa env else fb env) :=
  (pe_ifExp hc ha hb).imp fun σ H Q ⟨F, g, env, s, p⟩ => ⟨F, g, env, s, p.bnd fun k F1 g1 H1 x1 p1 => by
    cases k with
    | true => rw [if_pos rfl] at p1 ⊢; exact ⟨F1, g1, env, s.ext x1, p1⟩
    | false => rw [if_neg Bool.false_ne_true] at p1 ⊢; exact ⟨F1, g1, env, s.ext x1, p1⟩⟩

/-! ### isinstance -/
def tyN : D → Option String
  | .non => some "NoneType"
  | .bl _ => some "bool"
  | .int _ => some "int"
  | .str _ => some "str"
  | .tup _ => some "tuple"
  | .lst _ => some "list"
  | .scr _ => some "list"
  | .dnil => some "dict"
  | _ => none
theorem sql_ty {K : PySem.W.Frag} {a : Addr} {xs : List V} (h : SqL K H a xs) : TyX K H (.ref a) (.type "list") := by
  rcases h with (h | ⟨o, h⟩) | ⟨o, its, n, h1, h2, _⟩
  · exact .base (.lst h)
  · exact .base (.frz h)
  · exact .kList h1 h2
theorem sqt_ty {K : PySem.W.Frag} {a : Addr} {xs : List V} (h : SqT K H a xs) : TyX K H (.ref a) (.type "tuple") := by
  rcases h with (h | ⟨o, h⟩) | ⟨o, its, n, h1, h2, _⟩
  · exact .base (.tup h)
  · exact .fTuple h
  · exact .kTuple h1 h2
theorem tyN_rep {d : D} {t : String} {v : V} (e : tyN d = some t) (r : Rep W F H v d) : TyX W.K H v (.type t) := by
  cases r with
  | non => cases e; exact .base .non
  | bl b => cases e; exact .base (.bl b)
  | int b => cases e; exact .base (.int b)
  | str b => cases e; exact .base (.str b)
  | tup h z t => cases e; exact sqt_ty h
  | lst f h z t => cases e; exact .base (.lst h)
  | dnil f h => cases e; exact .base (.dK h)
  | scr h z => cases e; exact sql_ty (scr_sql h)
  | _ => cases e
def isiO (T : String) (d : D) : Option Bool := (tyN d).bind fun t => kitB t T
theorem boot_name {x : Str} {T : String} {v : V} {u : Value} (h : bootBuiltins x = some u) (e : u = .type T) (ev : v = .ty T) : bootBuiltins x = some u ∧ RelV v u := ⟨h, by rw [e, ev]; exact rfl⟩
theorem de_isi {T : String} {x y : Str} {p q pos : Pos} {e : Expr} {fe : Ev → Mo D} (hK : X.K = W.K) (hg : Gl X x) (hm : X.mg x = none) (hv : bootBuiltins x = some (.builtin "isinstance")) (hgT : Gl X y) (hmT : X.mg y = none) (hvT : bootBuiltins y = some (.type T))
    (he : PE X e (tE W E fe)) (hn : x ≠ "__name__") (hdb : (x == ("__debug__" : Str)) = false) (hnT : y ≠ "__name__") (hdbT : (y == ("__debug__" : Str)) = false) (hs : starEach [e, .Name y q] X.env = (false, eval e X.env) :: starEach [.Name y q] X.env) :
    PE X (.Call (.Name x p) [e, .Name y q] [] pos) (tE W E fun env => do let d ← fe env; Mo.of ((isiO T d).map D.bl)) :=
  (pe_callB call_isi hg hm hv (pa_cons he (pa_cons (pe_bltn hgT hmT hvT (v := .ty T) rfl hnT hdbT) pa_nil (by rfl)) hs) hn hdb hs (by rfl)).imp fun σ H Q ⟨F, g, env, s, p⟩ => ⟨F, g, env, s, p.bnd fun d F1 g1 H1 x1 p1 v rv => by
    obtain ⟨d', e, q⟩ := PR.of x1.wf p1
    obtain ⟨b, e1, e2⟩ := Option.map_eq_some_iff.mp e
    obtain ⟨t, e3, e4⟩ := Option.bind_eq_some_iff.mp e1
    subst e2
    exact ⟨v, .ty T, .type t, .type T, b, rfl, .ty T, by rw [hK]; exact tyN_rep e3 rv, kit_ty e4, q _ (.bl b)⟩⟩
end
end TL
end

-- text TlF
section
set_option maxHeartbeats 4000000
set_option autoImplicit false
namespace TL
open PySem PySem.Spec L2
open PyProof.Rows hiding St
/-! ### calls of own defs -/
/-- what a def promises: f tells what it gives -/
def spD (W : Wd) (n : Nat) (f : List D → Mo D) : Sp := fun vs H Q E => ∃ F g ds, Wf W F g H ∧ RepL W F H vs ds ∧ ds.length = n ∧ PR W E (PQ W Q) F g H (f ds g)
section
variable {W : Wd} {X : Cx} {E : XK} {F : Fz} {g : G} {H : Hp}
def runN (n : Nat) (f : List D → Mo D) (ds : List D) : Mo D := if ds.length = n then f ds else Mo.fail
theorem spD_of {n : Nat} {f : List D → Mo D} {vs : List V} {ds : List D} {Q : VK} (w : Wf W F g H) (r : RepL W F H vs ds) (p : PR W E (PQ W Q) F g H (runN n f ds g)) : spD W n f vs H Q E := by
  obtain ⟨c, p⟩ := pr_if p
  exact ⟨F, g, ds, w, r, c, p⟩
theorem de_call {x : Str} {f : Addr} {fd : FuncData} {ps : List Str} {k n : Nat} {run : List D → Mo D} {p pos : Pos} {e : Expr} {es : List Expr} {fs : Ev → Mo (List D)}
    (F : FnOk X.prog X.w X.K X.mg X.base (L2.CX X.prog X.w) k f fd ps (spD W n run)) (hr : Room k X.A) (hg : Gl X x) (hm : X.mg x = some (.ref f)) (hk : PySem.W.keepIn X.K (.ref f) = true) (hb : Binds X.K fd ps []) (hx : Passes (L2.CX X.prog X.w) X E)
    (ha : PA X (e :: es) (tA W E fs)) (hdb : (x == ("__debug__" : Str)) = false) (he : starEach (e :: es) X.env = (false, eval e X.env) :: starEach es X.env) (hpl : (backTo pos (starEach es X.env)).any (·.1) = false) :
    PE X (.Call (.Name x p) (e :: es) [] pos) (tE W E fun env => do let as ← fs env; runN n run as) :=
  (pe_call F hr hg hm hk hb .nil hx ha hdb he hpl).imp fun σ H Q ⟨F, g, env, s, p⟩ => ⟨F, g, env, s, p.bnd fun as F1 g1 H1 x1 p1 vs rs => by
    show spD W n run (vs ++ []) H1 Q E
    rw [List.append_nil]
    exact spD_of x1.wf rs p1⟩
/-! keywords: positional values first, then the named ones as written; ix says where each parameter's value stands -/
def dk (W : Wd) (E : XK) (X : Cx) (kws : List Keyword) (fs : Ev → Mo (List D)) : Prop := PK X kws (tA W E fs)
theorem _root_.L2.PK.imp {X : Cx} {e : List Keyword} {t t' : TA} (h : PK X e t) (i : ∀ σ H Q, t' σ H Q → t σ H Q) : PK X e t' := ⟨fun pos pins s σ H Q I w => h.run pos pins s σ H Q I (i σ H Q w)⟩
theorem dk_nil : PK X [] (tA W E fun _ => pure []) := pk_nil.imp fun _ _ _ ⟨_, _, _, s, p⟩ => p _ _ (Ext.refl s.wf) _ .nil
theorem dk_cons {nm : Option Str} {e : Expr} {kpos : Pos} {kws : List Keyword} {fe : Ev → Mo D} {fs : Ev → Mo (List D)} (ha : PE X e (tE W E fe)) (hr : PK X kws (tA W E fs)) :
    PK X (⟨nm, e, kpos⟩ :: kws) (tA W E fun env => do let a ← fe env; let as ← fs env; pure (a :: as)) :=
  (pk_cons ha hr).imp fun σ H Q ⟨F, g, env, s, p⟩ => ⟨F, g, env, s, p.bnd fun a F1 g1 H1 x1 p1 v rv => ⟨F1, g1, env, s.ext x1, p1.bnd fun as F2 g2 H2 x2 p2 vs rs =>
    p2 F2 H2 (Ext.refl x2.wf) _ (.cons (rv.ext x2 x1.wf) rs)⟩⟩
def pickAt {α : Type} (ix : List Nat) (xs : List α) : Option (List α) := ix.mapM fun i => xs[i]?
theorem pickAt_rep {vs : List V} {ds es : List D} (r : RepL W F H vs ds) : ∀ {ix : List Nat}, pickAt ix ds = some es → ∃ ws, pickAt ix vs = some ws ∧ RepL W F H ws es
  | [], e => by
    cases e
    exact ⟨[], rfl, .nil⟩
  | i :: ix, e => by
    unfold pickAt at e ⊢
    rw [List.mapM_cons] at e ⊢
    obtain ⟨d, e1, e⟩ := Option.bind_eq_some_iff.mp e
    obtain ⟨ds', e2, e3⟩ := Option.bind_eq_some_iff.mp e
    cases e3
    obtain ⟨v, h1, h2⟩ := r.get e1
    obtain ⟨ws, h3, h4⟩ := pickAt_rep r (ix := ix) e2
    refine ⟨v :: ws, ?_, .cons h2 h4⟩
    rw [h1]
    show (List.mapM (fun i => vs[i]?) ix).bind (fun ws => some (v :: ws)) = _
    rw [show List.mapM (fun i => vs[i]?) ix = some ws from h3]
    rfl
/-- how a call with so many positional values and these names binds -/
structure KwB (K : PySem.W.Frag) (fd : FuncData) (ps ks : List Str) (n : Nat) (ix : List Nat) : Prop where
  to : ∀ (s : Shared) (us ws xs : List Value), us.length = n → ws.length = ks.length → pickAt ix (us ++ ws) = some xs → BindsTo s fd ⟨us, ks.zip ws⟩ (ps.zip xs)
  len : ix.length = ps.length
theorem vals_pick {vs : List V} {us : List Value} (r : Vals vs us) : ∀ {ix : List Nat} {ws : List V}, pickAt ix vs = some ws → ∃ xs, pickAt ix us = some xs ∧ Vals ws xs
  | [], _, e => by
    cases e
    exact ⟨[], rfl, .nil⟩
  | i :: ix, _, e => by
    unfold pickAt at e ⊢
    rw [List.mapM_cons] at e ⊢
    obtain ⟨d, e1, e⟩ := Option.bind_eq_some_iff.mp e
    obtain ⟨ds', e2, e3⟩ := Option.bind_eq_some_iff.mp e
    cases e3
    obtain ⟨v, h1, h2⟩ := r.get e1
    obtain ⟨ws, h3, h4⟩ := vals_pick r (ix := ix) e2
    refine ⟨v :: ws, ?_, .cons h2 h4⟩
    rw [h1]
    show (List.mapM (fun i => us[i]?) ix).bind (fun ws => some (v :: ws)) = _
    rw [show List.mapM (fun i => us[i]?) ix = some ws from h3]
    rfl
theorem pickAt_len {α : Type} {xs : List α} : ∀ {ix : List Nat} {ys : List α}, pickAt ix xs = some ys → ys.length = ix.length
  | [], _, e => by cases e; rfl
  | i :: ix, _, e => by
    unfold pickAt at e
    rw [List.mapM_cons] at e
    obtain ⟨d, e1, e⟩ := Option.bind_eq_some_iff.mp e
    obtain ⟨ds', e2, e3⟩ := Option.bind_eq_some_iff.mp e
    cases e3
    rw [List.length_cons, List.length_cons, pickAt_len e2]
def kwRun (n m : Nat) (ix : List Nat) (run : List D → Mo D) (as bs : List D) : Mo D :=
  if as.length = n ∧ bs.length = m then (match pickAt ix (as ++ bs) with
    | some ds => runN ix.length run ds
    | none => Mo.fail) else Mo.fail
theorem run_kw {x : Str} {f : Addr} {fd : FuncData} {ps ks : List Str} {k n : Nat} {ix : List Nat} {run : List D → Mo D} {pins : List (Addr × Obj)} {s : Shared} {σ : St} {Q : VK} {us ws : List Value} {vs zs : List V} {as bs : List D}
    (Fk : FnOk X.prog X.w X.K X.mg X.base (L2.CX X.prog X.w) k f fd ps (spD W ix.length run)) (hr : Room k X.A) (hb : KwB X.K fd ps ks n ix) (hx : Passes (L2.CX X.prog X.w) X E)
    (I : Inv X pins σ H s) (r : Vals vs us) (rz : Vals zs ws) (ra : RepL W F H vs as) (rb : RepL W F H zs bs) (w : Wf W F g H) (p : PR W E (PQ W Q) F g H (kwRun n ks.length ix run as bs g)) :
    wpAny (model X.prog X.w) X.A (call (.ref f) us (ks.zip ws)) (EP X pins σ Q) X.xe s := by
  obtain ⟨⟨c1, c2⟩, p⟩ := pr_if p
  cases e : pickAt ix (as ++ bs) with
  | none => rw [e] at p; exact p.elim
  | some ds =>
    rw [e] at p
    obtain ⟨ys, e1, r1⟩ := pickAt_rep (ra.append rb) e
    obtain ⟨xs, e2, r2⟩ := vals_pick (r.append rz) e1
    have l1 : us.length = n := by rw [← r.length, ra.length, c1]
    have l2 : ws.length = ks.length := by rw [← rz.length, rb.length, c2]
    refine wpAny_call (codeAny_mono (Fk.run X.A X.stack s H ⟨us, ks.zip ws⟩ xs ys Q E hr I.env0 (hb.to s us ws xs l1 l2 e2) r2 (spD_of w r1 p)) fun r s' hq => ?_)
    cases r with
    | error e => exact hx pins σ H s e s' I hq
    | ok fl =>
      cases fl with
      | ret u => exact I.after hq
      | next => exact False.elim hq
      | brk => exact False.elim hq
      | cont => exact False.elim hq
/-- f(e, .., k = v, ..) -/
theorem de_callK {x : Str} {f : Addr} {fd : FuncData} {ps ks : List Str} {k n : Nat} {ix : List Nat} {run : List D → Mo D} {p pos : Pos} {e : Expr} {es : List Expr} {kws : List Keyword} {fs gs : Ev → Mo (List D)}
    (Fk : FnOk X.prog X.w X.K X.mg X.base (L2.CX X.prog X.w) k f fd ps (spD W ix.length run)) (hr : Room k X.A) (hg : Gl X x) (hm : X.mg x = some (.ref f)) (hk : PySem.W.keepIn X.K (.ref f) = true) (hb : KwB X.K fd ps ks n ix) (hx : Passes (L2.CX X.prog X.w) X E)
    (ha : PA X (e :: es) (tA W E fs)) (hkw : PK X kws (tA W E gs)) (hall : (backToKw pos (keywordEach kws X.env)).all (·.1.isSome) = true) (hks : (backToKw pos (keywordEach kws X.env)).filterMap (·.1) = ks)
    (hdb : (x == ("__debug__" : Str)) = false) (he : starEach (e :: es) X.env = (false, eval e X.env) :: starEach es X.env)
    (hpl : ((backTo pos (starEach (e :: es) X.env)).any (·.1) || (backToKw pos (keywordEach kws X.env)).any (·.1.isNone)) = false) :
    PE X (.Call (.Name x p) (e :: es) kws pos) (tE W E fun env => do let as ← fs env; let bs ← gs env; kwRun n ks.length ix run as bs) := by
  refine ⟨fun pins s σ H Q I h => ?_⟩
  obtain ⟨F, g, env, st, p⟩ := h
  refine wpAny_Call_Name_kw (ld_glob I hg hm ?_ hdb)
  refine PySem.W.callWith_KW (h₀ := X.base) I.ok.mod.kin hk hall (thn (ha.run pos pins s σ H (fun vs H1 => ∃ F1 g1 as, S W env σ F1 g1 H1 ∧ RepL W F1 H1 vs as ∧ PR W E (PQ W Q) F1 g1 H1 ((do let bs ← gs env; kwRun n ks.length ix run as bs : Mo D) g1)) I ⟨F, g, env, st, p.bnd fun as F1 g1 H1 x1 p1 vs rs => ⟨F1, g1, as, st.ext x1, rs, p1⟩⟩) fun us s1 ⟨vs, H1, I1, r, F1, g1, as, st1, rs, p1⟩ => ?_) hpl he
  refine thn (hkw.run pos pins s1 σ H1 (fun zs H2 => ∃ F2 g2 bs, Wf W F2 g2 H2 ∧ RepL W F2 H2 vs as ∧ RepL W F2 H2 zs bs ∧ PR W E (PQ W Q) F2 g2 H2 (kwRun n ks.length ix run as bs g2)) I1 ⟨F1, g1, env, st1, p1.bnd fun bs F2 g2 H2 x2 p2 zs rz => ⟨F2, g2, bs, x2.wf, rs.ext x2 st1.wf, rz, p2⟩⟩) fun ws s2 ⟨zs, H2, I2, rz, F2, g2, bs, w2, ra, rb, p2⟩ => ⟨I2.kIn, ?_⟩
  rw [hks]
  exact run_kw (x := x) Fk hr hb hx I2 r rz ra rb w2 p2
/-- f(k = v, ..) -/
theorem de_callK0 {x : Str} {f : Addr} {fd : FuncData} {ps ks : List Str} {k : Nat} {ix : List Nat} {run : List D → Mo D} {p pos : Pos} {kws : List Keyword} {gs : Ev → Mo (List D)}
    (Fk : FnOk X.prog X.w X.K X.mg X.base (L2.CX X.prog X.w) k f fd ps (spD W ix.length run)) (hr : Room k X.A) (hg : Gl X x) (hm : X.mg x = some (.ref f)) (hk : PySem.W.keepIn X.K (.ref f) = true) (hb : KwB X.K fd ps ks 0 ix) (hx : Passes (L2.CX X.prog X.w) X E)
    (hkw : PK X kws (tA W E gs)) (hall : (backToKw pos (keywordEach kws X.env)).all (·.1.isSome) = true) (hks : (backToKw pos (keywordEach kws X.env)).filterMap (·.1) = ks)
    (hdb : (x == ("__debug__" : Str)) = false) (hpl : ((backTo pos (starEach [] X.env)).any (·.1) || (backToKw pos (keywordEach kws X.env)).any (·.1.isNone)) = false) :
    PE X (.Call (.Name x p) [] kws pos) (tE W E fun env => do let bs ← gs env; kwRun 0 ks.length ix run [] bs) := by
  refine ⟨fun pins s σ H Q I h => ?_⟩
  obtain ⟨F, g, env, st, p⟩ := h
  refine wpAny_Call_Name_kw (ld_glob I hg hm ?_ hdb)
  refine PySem.W.callWith_KW0 (h₀ := X.base) I.ok.mod.kin hk hall ?_ hpl
  refine thn (hkw.run pos pins s σ H (fun zs H2 => ∃ F2 g2 bs, Wf W F2 g2 H2 ∧ RepL W F2 H2 zs bs ∧ PR W E (PQ W Q) F2 g2 H2 (kwRun 0 ks.length ix run [] bs g2)) I ⟨F, g, env, st, p.bnd fun bs F2 g2 H2 x2 p2 zs rz => ⟨F2, g2, bs, x2.wf, rz, p2⟩⟩) fun ws s2 ⟨zs, H2, I2, rz, F2, g2, bs, w2, rb, p2⟩ => ⟨I2.kIn, ?_⟩
  rw [hks]
  exact run_kw (x := x) (vs := []) Fk hr hb hx I2 .nil rz .nil rb w2 p2

/-! ### join -/
def joinO (a : Str) (xs : D) : Option D := ((lstO xs).bind strsO).bind fun ys => if (ys.map (·.length)).sum + ys.length * a.length ≤ lim then some (.str (Txt.join a ys)) else none
def joinD (s : D) (m : Mo D) : Mo D := match s with
  | .str a => do
    let xs ← m
    Mo.of (joinO a xs)
  | _ => Mo.fail
theorem de_join {o e : Expr} {apos pos : Pos} {fo fe : Ev → Mo D} (ho : PE X o (tE W E fo)) (he : PE X e (tE W E fe)) (hs : starEach [e] X.env = [(false, eval e X.env)]) (hbase : attributeBase o "join" X.env (eval o X.env) = eval o X.env) (hline : (apos.endLine == pos.line) = true) :
    PE X (.Call (.Attribute o "join" apos) [e] [] pos) (tE W E fun env => do let s ← fo env; joinD s (fe env)) :=
  (pe_join ho he hs hbase hline).imp fun σ H Q ⟨F, g, env, s, p⟩ => ⟨F, g, env, s, p.bnd fun a F1 g1 H1 x1 p1 v rv => by
    cases rv with
    | str a =>
      refine ⟨⟨a, rfl⟩, F1, g1, env, s.ext x1, PR.bnd (m := fe env) (k := fun xs => Mo.of (joinO a xs)) p1 fun b F2 g2 H2 x2 p2 u ru => ?_⟩
      obtain ⟨d, e, q⟩ := PR.of x2.wf p2
      obtain ⟨ys, e1, e2⟩ := Option.bind_eq_some_iff.mp e
      obtain ⟨l, e3, e4⟩ := Option.bind_eq_some_iff.mp e1
      obtain ⟨qa, ws, rfl, _, h, _, rr⟩ := lstO_rep e3 ru
      rw [strsO_eq e4] at rr
      by_cases c : (ys.map (·.length)).sum + ys.length * a.length ≤ lim
      · rw [if_pos c] at e2
        cases e2
        exact ⟨a, qa, ys, rfl, rfl, .inl (.inl (.inl (by rw [h, rr.strs]))), Nat.le_trans c (by decide), q _ (.str _)⟩
      · rw [if_neg c] at e2; cases e2
    | _ => exact p1.elim⟩
end
end TL
end

-- text TlG
section
set_option maxHeartbeats 4000000
set_option autoImplicit false
namespace TL
open PySem PySem.Spec L2
open PyProof.Rows hiding St
/-! ### zip of lists and tuples in any mix -/
/-- a side: a list (true), a tuple (false) -/
def sqS (l : Bool) (K : PySem.W.Frag) (H : Hp) (a : Addr) (xs : List V) : Prop := if l = true then SqL K H a xs else SqT K H a xs
def itS (l : Bool) (h : Heap) (it a : Addr) (i : Nat) : Prop := if l = true then h.IsListIter it a i else h.IsTupleIter it a i
def isS (l : Bool) (h : Heap) (a : Addr) (its : Array Value) : Prop := if l = true then h.IsList a its else h.IsTuple a its
def itO (l : Bool) (a : Addr) : Obj := { cls := .type (if l = true then "list_iterator" else "tuple_iterator"), data := .fields #[.ref a, .int 0 0] }
section
variable {X : Cx} {pins : List (Addr × Obj)} {σ : St} {H : Hp} {s : Shared} {a : Addr} {xs ys : List V} {l : Bool}
theorem side_get (I : Inv X pins σ H s) (h : sqS l X.K H a xs) : ∃ its : List Value, Vals xs its ∧ isS l s.heap a its.toArray ∧ xs.length ≤ sizeLine := by
  cases l with
  | true =>
    obtain ⟨its, r, p, z⟩ := I.list h
    exact ⟨its, r, p.isList, z⟩
  | false =>
    obtain ⟨its, r, p, z⟩ := I.tuple h
    exact ⟨its, r, p, z⟩
theorem side_inj (I : Inv X pins σ H s) (h : sqS l X.K H a xs) (h' : sqS l X.K H a ys) : xs = ys := by
  cases l with
  | true => exact I.list_inj h h'
  | false => exact I.tuple_inj h h'
theorem itS_at {l : Bool} {h h' : Heap} {it a : Addr} {i : Nat} (x : itS l h it a i) (k : ∀ o, h.get? it = some o → h'.get? it = some o) : itS l h' it a i := by
  cases l with
  | true => exact Heap.IsListIter.at (show h.IsListIter it a i from x) k
  | false => exact Heap.IsTupleIter.at (show h.IsTupleIter it a i from x) k
theorem itS_obj {l : Bool} {h : Heap} {it a : Addr} {i : Nat} (x : itS l h it a i) : ∃ o, h.get? it = some o ∧ ∀ v, o.data ≠ .cell v := by
  cases l with
  | true =>
    obtain ⟨o, e, c, d⟩ := (show h.IsListIter it a i from x)
    exact ⟨o, e, fun v q => by rw [d] at q; cases q⟩
  | false =>
    obtain ⟨o, e, c, d⟩ := (show h.IsTupleIter it a i from x)
    exact ⟨o, e, fun v q => by rw [d] at q; cases q⟩
theorem side_draws (l : Bool) {prog : Program} {w : World} {A : Around} (hh : A.handled = none) {it a : Addr} (ne : a ≠ it) (its : Array Value) :
    Draws prog w A it [it, a] its.size (fun i v => its[i]? = some v) (fun i h => itS l h it a i ∧ isS l h a its) := by
  cases l with
  | true => exact Draws.list hh it a ne its
  | false => exact Draws.tuple hh it a ne its
theorem side_begins (l : Bool) (a : Addr) (its : Array Value) : Begins (.ref a) (itO l a) fun h => isS l h a its := by
  cases l with
  | true => exact begins_list a its
  | false => exact begins_tuple a its
theorem itO_it (l : Bool) {h : Heap} {it a : Addr} (e : h.get? it = some (itO l a)) : itS l h it a 0 := by
  cases l with
  | true => exact ⟨_, e, rfl, rfl⟩
  | false => exact ⟨_, e, rfl, rfl⟩
theorem isS_lt {l : Bool} {h : Heap} {a : Addr} {its : Array Value} (x : isS l h a its) : a < h.objs.size := by
  cases l with
  | true => obtain ⟨o, e, _⟩ := (show h.IsList a its from x); exact Heap.lt_size e
  | false => obtain ⟨o, e, _⟩ := (show h.IsTuple a its from x); exact Heap.lt_size e
end
def ItzG (K : PySem.W.Frag) (l1 l2 : Bool) (a b : Addr) : It :=
  ⟨fun i H => ∃ (xs ys : List V) (x y : V), sqS l1 K H a xs ∧ sqS l2 K H b ys ∧ xs[i]? = some x ∧ ys[i]? = some y,
    fun i H v H' => ∃ T x y, v = .ref T ∧ H T = none ∧ H' = upd H T (.tup [x, y]) ∧ (∀ xs, sqS l1 K H a xs → xs[i]? = some x) ∧ ∀ ys, sqS l2 K H b ys → ys[i]? = some y,
    fun i H => ∃ xs ys : List V, sqS l1 K H a xs ∧ sqS l2 K H b ys ∧ i = min xs.length ys.length⟩
/-- the cells of such a zip -/
structure ZApart (z TI TO i1 i2 a b : Addr) : Prop where
  sep : ZipSep2 z TI TO i1 i2 [i1, a] [i2, b]
  na : a ≠ i1
  nb : b ≠ i2
theorem turn_zipG {P : Program} {w : World} {K : PySem.W.Frag} {elts : List Expr} {kk : Nat} {tpos : Pos} {l1 l2 : Bool} {a b z TI TO i1 i2 : Addr} (Z : ZApart z TI TO i1 i2 a b) :
    Turn P w K (.Tuple elts kk tpos) (ItzG K l1 l2 a b) [z, TI, TO, i1, i2] z (fun i h => IsZip h z TI TO .none ∧ IsTupOf2 h TI (.ref i1) (.ref i2) ∧ (∃ x y, IsTupOf2 h TO x y) ∧ itS l1 h i1 a i ∧ itS l2 h i2 b i) where
  mem := by simp
  obj := fun i h st c hc => by
    obtain ⟨hz, hTI, ⟨x, y, hTO⟩, h1, h2⟩ := st
    have e' : c = z ∨ c = TI ∨ c = TO ∨ c = i1 ∨ c = i2 := by simpa using hc
    rcases e' with rfl | rfl | rfl | rfl | rfl
    · exact ⟨_, hz, fun _ z => nomatch z⟩
    · exact ⟨_, hTI, fun _ z => nomatch z⟩
    · exact ⟨_, hTO, fun _ z => nomatch z⟩
    · exact itS_obj h1
    · exact itS_obj h2
  keep := fun i h h' st k => by
    obtain ⟨hz, hTI, ⟨x, y, hTO⟩, h1, h2⟩ := st
    exact ⟨k z (by simp) _ hz, k TI (by simp) _ hTI, ⟨x, y, k TO (by simp) _ hTO⟩, itS_at h1 fun o e => k i1 (by simp) o e, itS_at h2 fun o e => k i2 (by simp) o e⟩
  item := by
    intro X hP hw hK hc i pins s σ H E I hf st hg
    subst hP hw hK
    obtain ⟨xs, ys, x, y, hqx, hqy, hx, hy⟩ := hg
    obtain ⟨its, rv, p, _⟩ := side_get I hqx
    obtain ⟨its2, rv2, p2, _⟩ := side_get I hqy
    obtain ⟨u, hu, ru⟩ := rv.get hx
    obtain ⟨u2, hu2, ru2⟩ := rv2.get hy
    obtain ⟨hz, hTI, hTO, h1, h2⟩ := st
    have Gz := GoesN.zip2 (prog := X.prog) (w := X.w) (A := X.A) (elts := elts) (x1 := kk) (pos := tpos) Z.sep (side_draws l1 (A := X.A.in1) (I.ok.hd hc) Z.na its.toArray) (side_draws l2 (A := X.A.in1) (I.ok.hd hc) Z.nb its2.toArray)
    have lt1 : i < its.length := (List.getElem?_eq_some_iff.mp hu).1
    have lt2 : i < its2.length := (List.getElem?_eq_some_iff.mp hu2).1
    refine thn (Gz.goes i s (fun v s2 => ∃ x H', Inv X pins σ H' s2 ∧ RelV x v ∧ (ItzG X.K l1 l2 a b).yld i H x H' ∧ (IsZip s2.heap z TI TO .none ∧ IsTupOf2 s2.heap TI (.ref i1) (.ref i2) ∧ (∃ x y, IsTupOf2 s2.heap TO x y) ∧ itS l1 s2.heap i1 a (i + 1) ∧ itS l2 s2.heap i2 b (i + 1)) ∧ ∀ c ∈ [z, TI, TO, i1, i2], H' c = none) E (by
      simp only [List.size_toArray]
      omega) ⟨hz, hTI, hTO, ⟨h1, p⟩, ⟨h2, p2⟩⟩ fun v h' tk hY st' hk _ => ?_) fun r s1 q => q
    obtain ⟨T, vx, vy, ev, hn, e1, e2, hT⟩ := hY
    obtain ⟨hz', hTI', hTO', ⟨h1', _⟩, ⟨h2', _⟩⟩ := st'
    have e1 : its[i]? = some vx := by simpa using e1
    have e2 : its2[i]? = some vy := by simpa using e2
    have eu : u = vx := Option.some.inj (hu.symm.trans e1)
    have eu2 : u2 = vy := Option.some.inj (hu2.symm.trans e2)
    subst eu eu2 ev
    have new : ObjOk X.prog X.w (upd H T (.tup [x, y])) h' T (.tup [x, y]) :=
      ⟨by show 2 ≤ sizeLine; decide, [u, u2], .cons ru (.cons ru2 .nil), hT⟩
    have I1 := I.turnedNew (t' := tk) (ch := [z, TI, TO, i1, i2]) (fun c o hb e => hk c o (fun m => hb (by
      have m' : c = z ∨ c = TO ∨ c = i1 ∨ c = i2 := by simpa using m
      rcases m' with rfl | rfl | rfl | rfl <;> simp)) e) hf hn new
    have hTn : H T = none := I.hok.fresh hn
    refine ⟨.ref T, _, I1, rfl, ⟨T, x, y, rfl, hTn, rfl, fun l hl => by rw [side_inj I hl hqx]; exact hx, fun l hl => by rw [side_inj I hl hqy]; exact hy⟩, ⟨hz', hTI', hTO', h1', h2'⟩, fun c hcm => ?_⟩
    have hlt : c < s.heap.objs.size := by
      have e' : c = z ∨ c = TI ∨ c = TO ∨ c = i1 ∨ c = i2 := by simpa using hcm
      obtain ⟨x0, y0, hTO⟩ := hTO
      rcases e' with rfl | rfl | rfl | rfl | rfl
      · exact Heap.lt_size hz
      · exact Heap.lt_size hTI
      · exact Heap.lt_size hTO
      · obtain ⟨_, e, _⟩ := itS_obj h1; exact Heap.lt_size e
      · obtain ⟨_, e, _⟩ := itS_obj h2; exact Heap.lt_size e
    rw [upd_ne (Nat.ne_of_lt (Nat.lt_of_lt_of_le hlt hn))]
    exact (hf c hcm).1
  done := by
    intro X hP hw hK hc i pins s σ H E I hf st hg
    subst hP hw hK
    obtain ⟨xs, ys, hqx, hqy, hend⟩ := hg
    obtain ⟨its, rv, p, _⟩ := side_get I hqx
    obtain ⟨its2, rv2, p2, _⟩ := side_get I hqy
    obtain ⟨hz, hTI, hTO, h1, h2⟩ := st
    have Gz := GoesN.zip2 (prog := X.prog) (w := X.w) (A := X.A) (elts := elts) (x1 := kk) (pos := tpos) Z.sep (side_draws l1 (A := X.A.in1) (I.ok.hd hc) Z.na its.toArray) (side_draws l2 (A := X.A.in1) (I.ok.hd hc) Z.nb its2.toArray)
    have en : i = min its.toArray.size its2.toArray.size := by
      rw [hend, rv.length, rv2.length]
      simp only [List.size_toArray]
    subst en
    exact Gz.stops s (fun s1 => Inv X pins σ H s1) E ⟨hz, hTI, hTO, ⟨h1, p⟩, ⟨h2, p2⟩⟩ fun h' tk hk _ => I.turnedL (t' := tk) (ch := [z, TI, TO, i1, i2]) (fun c o hb e => hk c o (fun m => hb (by
      have m' : c = z ∨ c = TO ∨ c = i1 ∨ c = i2 := by simpa using m
      rcases m' with rfl | rfl | rfl | rfl <;> simp)) e) hf
  self := fun A i s Q E st h => wpAny_pyIter_zip st.1 h
def iZipG (K : PySem.W.Frag) (ta : TA) : TI := fun σ H R => ta σ H fun vs H1 => ∃ l1 l2 a b xs ys, vs = [.ref a, .ref b] ∧ sqS l1 K H1 a xs ∧ sqS l2 K H1 b ys ∧ R (ItzG K l1 l2 a b) H1
theorem pi_zipG {X : Cx} {e e2 : Expr} {ta : TA} {p pos tpos : Pos} {elts : List Expr} {kk : Nat} (hg : Gl X "zip") (hm : X.mg "zip" = none) (ha : PA X [e, e2] ta)
    (hs : starEach [e, e2] X.env = (false, eval e X.env) :: starEach [e2] X.env) (hpl : (backTo pos (starEach [e2] X.env)).any (·.1) = false) :
    PI X (.Tuple elts kk tpos) (.Call (.Name "zip" p) [e, e2] [] pos) (iZipG X.K ta) := by
  refine ⟨fun pins s σ H R I h => ?_⟩
  refine Call_ (ld_blt I hg hm PyProof.Rows.boot_zip (PyProof.Rows.callWith_type1 (thn (ha.run pos pins s σ H _ I h) fun us s1 ⟨vs, H1, I1, r1, q1⟩ => ?_) hs hpl))
  obtain ⟨l1, l2, a, b, xs, ys, ex, hqx, hqy, q⟩ := q1
  subst ex
  obtain ⟨w1, w2, rfl, r, r'⟩ := vals2 r1
  cases r
  cases r'
  obtain ⟨its, rv, p1, _⟩ := side_get I1 hqx
  obtain ⟨its2, rv2, p2, _⟩ := side_get I1 hqy
  have la := isS_lt p1
  have lb := isS_lt p2
  refine zip_begins2 (side_begins l1 a its.toArray) (side_begins l2 b its2.toArray) p1 p2 fun h' hz hTI hTO h1 h2 hsz hk => wpAny_pyIter_zip hz ?_
  have I2 : Inv X pins σ H1 { s1 with heap := h' } := I1.kept (t' := s1.toks) hk
  have f5 : ∀ c, c ∈ [s1.heap.objs.size + 4, s1.heap.objs.size + 2, s1.heap.objs.size + 3, s1.heap.objs.size, s1.heap.objs.size + 1] → FpOk X pins H1 c := fun c hcm => by
    have hle : s1.heap.objs.size ≤ c := by
      simp only [List.mem_cons, List.not_mem_nil, or_false] at hcm
      rcases hcm with rfl | rfl | rfl | rfl | rfl <;> first | exact Nat.le_refl _ | exact Nat.le_add_right _ _
    exact I1.fpOk hle (I1.hok.fresh hle)
  exact ⟨_, [s1.heap.objs.size + 4, s1.heap.objs.size + 2, s1.heap.objs.size + 3, s1.heap.objs.size, s1.heap.objs.size + 1], _, _, H1, rfl, I2,
    turn_zipG ⟨zip_sep2 (fp1 := [a]) (fp2 := [b]) (by simpa using la) (by simpa using lb), Nat.ne_of_lt la, Nat.ne_of_lt (Nat.lt_succ_of_lt lb)⟩, ⟨hz, hTI, ⟨_, _, hTO⟩, itO_it l1 h1, itO_it l2 h2⟩, f5, q⟩
end TL
end

-- text TlH
section
set_option maxHeartbeats 4000000
set_option autoImplicit false
namespace TL
open PySem PySem.Spec L2
open PyProof.Rows hiding St
/-! ### enumerate of a list or a tuple -/
theorem enum_new1 {v : Value} {o : Obj} {P : Heap → Prop} (B : Begins v o P) :
    Meets (Builtin.«enumerate.__new__» ⟨[.type "enumerate", v], []⟩) (fun _ R s => P s.heap ∧
      R (.ok (.ret (.ref (s.heap.push o).objs.size))) { s with heap := (s.heap.push o).push { cls := .type "enumerate", data := .fields #[.none, .bool false, .ref s.heap.objs.size, rawInt 0, .none, .none] } }) :=
  .of_wp fun prog w A R s hyp => by
    obtain ⟨hp, gg, dr, tk, os⟩ := s
    obtain ⟨hP, hyp⟩ := hyp
    have hsub := sub_enumerate
    have q1 : ∀ {A' : Around} {E : Value → Shared → Prop} {Q : Value → Shared → Prop}, Q (.ref hp.objs.size) ⟨hp.push o, gg, dr, tk, os⟩ → wpAny (model prog w) A' (pyIter v) Q E ⟨hp, gg, dr, tk, os⟩ :=
      fun q => B.iter prog w _ _ ⟨hp, gg, dr, tk, os⟩ _ hP q
    wp_walk using q1
    refine wpAny_stack_any fun st => wpAny_pure ?_
    split
    · rename_i c _ _ _ _ _
      cases (c == Value.type "enumerate") <;> (wp_walk using q1; exact ⟨_, rfl, hyp⟩)
    · wp_walk using q1
      exact ⟨_, rfl, hyp⟩
theorem call_enum1 {prog : Program} {w : World} {A : Around} {E : Value → Shared → Prop} {s : Shared} {v : Value} {o : Obj} {P : Heap → Prop} {Q : Value → Shared → Prop} (B : Begins v o P) (h1 : P s.heap)
    (h : ∀ h', IsEnum h' (s.heap.objs.size + 1) s.heap.objs.size 0 .none → h'.get? s.heap.objs.size = some o → (∀ b ob, s.heap.get? b = some ob → h'.get? b = some ob) → Q (.ref (s.heap.objs.size + 1)) { s with heap := h' }) :
    wpAny (model prog w) A (call (.type "enumerate") [v]) Q E s := by
  refine callType_new F.called_enumerate (by decide) (F.typeCall_enumerate_1 _) (F.newCall_enumerate_1 _) (fun obj => F.args_object_init_2 obj _) F.entry_enumerate_new (enum_new1 B) ⟨h1, ?_⟩
  have hz : (s.heap.push o).objs.size = s.heap.objs.size + 1 := Heap.size_push ..
  show _ ∧ _
  rw [hz]
  have he : IsEnum ((s.heap.push o).push { cls := .type "enumerate", data := .fields #[.none, .bool false, .ref s.heap.objs.size, rawInt 0, .none, .none] }) (s.heap.objs.size + 1) s.heap.objs.size 0 .none := by
    have q := Heap.get?_push_size (s.heap.push o) (o := { cls := .type "enumerate", data := .fields #[.none, .bool false, .ref s.heap.objs.size, rawInt 0, .none, .none] }) rfl
    rwa [hz] at q
  refine ⟨⟨_, he, rfl⟩, h _ he (Heap.get?_push_of_some _ (Heap.get?_push_size _ B.free)) fun b ob e => Heap.get?_push_of_some _ (Heap.get?_push_of_some _ e)⟩
def IteG (K : PySem.W.Frag) (l : Bool) (a : Addr) : It :=
  ⟨fun i H => ∃ (xs : List V) (x : V), sqS l K H a xs ∧ xs[i]? = some x, fun i H v H' => ∃ T x, v = .ref T ∧ H T = none ∧ H' = upd H T (.tup [.int (i : Nat), x]) ∧ ∀ xs, sqS l K H a xs → xs[i]? = some x,
    fun i H => ∃ xs : List V, sqS l K H a xs ∧ i = xs.length⟩
theorem turn_enumG {P : Program} {w : World} {K : PySem.W.Frag} {elts : List Expr} {kk : Nat} {tpos : Pos} {l : Bool} {a e it : Addr} (hei : e ≠ it) (hea : e ≠ a) (hai : a ≠ it) :
    Turn P w K (.Tuple elts kk tpos) (IteG K l a) [e, it] e (fun i h => (∃ old, IsEnum h e it ((0 : Int) + (i : Int)) old) ∧ itS l h it a i) where
  mem := by simp
  obj := fun i h st c hc => by
    obtain ⟨⟨old, he⟩, h1⟩ := st
    have e' : c = e ∨ c = it := by simpa using hc
    rcases e' with rfl | rfl
    · exact ⟨_, he, fun _ z => nomatch z⟩
    · exact itS_obj h1
  keep := fun i h h' st k => by
    obtain ⟨⟨old, he⟩, h1⟩ := st
    exact ⟨⟨old, k e (by simp) _ he⟩, itS_at h1 fun o q => k it (by simp) o q⟩
  item := by
    intro X hP hw hK hc i pins s σ H E I hf st hg
    subst hP hw hK
    obtain ⟨xs, x, hqx, hx⟩ := hg
    obtain ⟨its, rv, p, _⟩ := side_get I hqx
    obtain ⟨u, hu, ru⟩ := rv.get hx
    obtain ⟨he, h1⟩ := st
    have Gz := GoesN.enumFrom (prog := X.prog) (w := X.w) (A := X.A) (elts := elts) (x1 := kk) (pos := tpos) 0 (side_draws l (A := X.A.in1) (I.ok.hd hc) hai its.toArray) e hei (by simp only [List.mem_cons, List.not_mem_nil, or_false, not_or]; exact ⟨hei, hea⟩) (by simp)
    have lt1 : i < its.length := (List.getElem?_eq_some_iff.mp hu).1
    refine thn (Gz.goes i s (fun v s2 => ∃ x H', Inv X pins σ H' s2 ∧ RelV x v ∧ (IteG X.K l a).yld i H x H' ∧ ((∃ old, IsEnum s2.heap e it ((0 : Int) + ((i + 1 : Nat) : Int)) old) ∧ itS l s2.heap it a (i + 1)) ∧ ∀ c ∈ [e, it], H' c = none) E (by simpa using lt1) ⟨he, h1, p⟩ fun v h' tk hY st' hk _ => ?_) fun r s1 q => q
    obtain ⟨T, t, vx, ev, hn, e1, hT⟩ := hY
    obtain ⟨he', h1', _⟩ := st'
    have e1 : its[i]? = some vx := by simpa using e1
    have eu : u = vx := Option.some.inj (hu.symm.trans e1)
    subst eu ev
    have ez : (0 : Int) + (i : Int) = ((i : Nat) : Int) := Int.zero_add _
    rw [ez] at hT
    have new : ObjOk X.prog X.w (upd H T (.tup [.int (i : Nat), x])) h' T (.tup [.int (i : Nat), x]) :=
      ⟨by show 2 ≤ sizeLine; decide, [.int (i : Nat) t, u], .cons ⟨_, rfl⟩ (.cons ru .nil), hT⟩
    have I1 := I.turnedNew (t' := tk) (ch := [e, it]) (fun c o hb q => hk c o hb q) hf hn new
    refine ⟨.ref T, _, I1, rfl, ⟨T, x, rfl, I.hok.fresh hn, rfl, fun l hl => by rw [side_inj I hl hqx]; exact hx⟩, ⟨he', h1'⟩, fun c hcm => ?_⟩
    have hlt : c < s.heap.objs.size := by
      have e' : c = e ∨ c = it := by simpa using hcm
      obtain ⟨old, he⟩ := he
      rcases e' with rfl | rfl
      · exact Heap.lt_size he
      · obtain ⟨_, q, _⟩ := itS_obj h1; exact Heap.lt_size q
    rw [upd_ne (Nat.ne_of_lt (Nat.lt_of_lt_of_le hlt hn))]
    exact (hf c hcm).1
  done := by
    intro X hP hw hK hc i pins s σ H E I hf st hg
    subst hP hw hK
    obtain ⟨xs, hqx, hend⟩ := hg
    obtain ⟨its, rv, p, _⟩ := side_get I hqx
    obtain ⟨he, h1⟩ := st
    have Gz := GoesN.enumFrom (prog := X.prog) (w := X.w) (A := X.A) (elts := elts) (x1 := kk) (pos := tpos) 0 (side_draws l (A := X.A.in1) (I.ok.hd hc) hai its.toArray) e hei (by simp only [List.mem_cons, List.not_mem_nil, or_false, not_or]; exact ⟨hei, hea⟩) (by simp)
    have en : i = its.toArray.size := by
      rw [hend, rv.length]
      simp only [List.size_toArray]
    subst en
    exact Gz.stops s (fun s1 => Inv X pins σ H s1) E ⟨he, h1, p⟩ fun h' tk hk _ => I.turnedL (t' := tk) (ch := [e, it]) (fun c o hb q => hk c o hb q) hf
  self := fun A i s Q E st h => let ⟨_, he⟩ := st.1; wpAny_pyIter_enum he h
def iEnumG (K : PySem.W.Frag) (ta : TA) : TI := fun σ H R => ta σ H fun vs H1 => ∃ l a xs, vs = [.ref a] ∧ sqS l K H1 a xs ∧ R (IteG K l a) H1
theorem pi_enumG {X : Cx} {e : Expr} {ta : TA} {p pos tpos : Pos} {elts : List Expr} {kk : Nat} (hg : Gl X "enumerate") (hm : X.mg "enumerate" = none) (ha : PA X [e] ta) (hs : starEach [e] X.env = [(false, eval e X.env)]) :
    PI X (.Tuple elts kk tpos) (.Call (.Name "enumerate" p) [e] [] pos) (iEnumG X.K ta) := by
  refine ⟨fun pins s σ H R I h => ?_⟩
  refine Call_ (ld_blt I hg hm boot_enumerate (PyProof.Rows.callWith_type1 (thn (ha.run pos pins s σ H _ I h) fun us s1 ⟨vs, H1, I1, r1, q1⟩ => ?_) hs rfl))
  obtain ⟨l, a, xs, ex, hqx, q⟩ := q1
  subst ex
  obtain ⟨w1, rfl, r⟩ := vals1 r1
  cases r
  obtain ⟨its, rv, p1, _⟩ := side_get I1 hqx
  have la := isS_lt p1
  refine call_enum1 (side_begins l a its.toArray) p1 fun h' he h1 hk => wpAny_pyIter_enum he ?_
  have I2 : Inv X pins σ H1 { s1 with heap := h' } := I1.kept (t' := s1.toks) hk
  have f2 : ∀ c, c ∈ [s1.heap.objs.size + 1, s1.heap.objs.size] → FpOk X pins H1 c := fun c hcm => by
    have hle : s1.heap.objs.size ≤ c := by
      simp only [List.mem_cons, List.not_mem_nil, or_false] at hcm
      rcases hcm with rfl | rfl <;> first | exact Nat.le_refl _ | exact Nat.le_add_right _ _
    exact I1.fpOk hle (I1.hok.fresh hle)
  exact ⟨_, [s1.heap.objs.size + 1, s1.heap.objs.size], _, _, H1, rfl, I2, turn_enumG (Nat.ne_of_gt (Nat.lt_succ_self _)) (Nat.ne_of_gt (Nat.lt_succ_of_lt la)) (Nat.ne_of_lt la), ⟨⟨.none, by rw [Int.zero_add]; exact he⟩, itO_it l h1⟩, f2, q⟩
/-! ### a list, a tuple, a text -/
def iSeq (K : PySem.W.Frag) (tl : TE) : TI := fun σ H R => tl σ H fun x H1 => (∃ a, x = .ref a ∧ ((∃ xs, SqL K H1 a xs) ∧ R (Itl K a) H1 ∨ (∃ xs, SqT K H1 a xs) ∧ R (Itt K a) H1)) ∨ ∃ z, x = .str z ∧ R (Its z) H1
theorem pi_seq {X : Cx} {tg l : Expr} {tl : TE} (hl : PE X l tl) : PI X tg l (iSeq X.K tl) := by
  refine ⟨fun pins s σ H R I h => thn (hl.run pins s σ H _ I h) fun v s1 ⟨x, H1, I1, r1, q1⟩ => ?_⟩
  have one : ∀ b, b ∈ [s1.heap.objs.size] → FpOk X pins H1 b := fun b hb => by
    have e : b = s1.heap.objs.size := by simpa using hb
    rw [e]
    exact I1.fpOk (Nat.le_refl _) (I1.hok.fresh (Nat.le_refl _))
  have kp : ∀ ob, Inv X pins σ H1 { s1 with heap := s1.heap.push ob } := fun ob => I1.kept (t' := s1.toks) fun b o e => Heap.get?_push_of_some _ e
  rcases q1 with ⟨a, rfl, ⟨⟨xs, hq⟩, q⟩ | ⟨⟨xs, hq⟩, q⟩⟩ | ⟨z, rfl, q⟩
  · cases r1
    obtain ⟨its, rv, p, hz⟩ := I1.list hq
    exact wpAny_pyIter_list p.isList ⟨_, [s1.heap.objs.size], _, _, H1, rfl, kp _, turn_list a _, ⟨_, Heap.get?_push_size _ rfl, rfl, rfl⟩, one, q⟩
  · cases r1
    obtain ⟨its, rv, p, hz⟩ := I1.tuple hq
    exact wpAny_pyIter_tuple (show s1.heap.IsTuple a its.toArray from p) ⟨_, [s1.heap.objs.size], _, _, H1, rfl, kp _, turn_tuple a _, ⟨_, Heap.get?_push_size _ rfl, rfl, rfl⟩, one, q⟩
  · obtain ⟨t, rfl⟩ := r1
    cases ha : z.cps.all (· < 128)
    · exact wpAny_pyIter_wide ha ⟨_, [s1.heap.objs.size], _, _, H1, rfl, kp _, turn_str _ z t "str_iterator" (.inr rfl), ⟨_, Heap.get?_push_size _ rfl, rfl, rfl⟩, one, q⟩
    · exact wpAny_pyIter_ascii ha ⟨_, [s1.heap.objs.size], _, _, H1, rfl, kp _, turn_str _ z t "str_ascii_iterator" (.inl rfl), ⟨_, Heap.get?_push_size _ rfl, rfl, rfl⟩, one, q⟩
end TL
end

-- text TlI
section
set_option maxHeartbeats 4000000
set_option autoImplicit false
noncomputable section
namespace TL
open PySem PySem.Spec L2
open PyProof.Rows hiding St
section
variable {W : Wd} {X : Cx} {E : XK} {F F1 F2 : Fz} {g g1 g2 : G} {H H1 H2 : Hp}
/-! ### what is walked -/
/-- from (F, g, H) on J hands out the data ds -/
structure Dlv (W : Wd) (F : Fz) (g : G) (H : Hp) (J : It) (ds : List D) : Prop where
  go : ∀ F1 g1 H1, Stay W F H F1 g1 H1 → ∀ (i : Nat) d, ds[i]? = some d → J.go i H1 ∧ ∀ x H2, J.yld i H1 x H2 → ∃ F2, Ext W F1 g1 H1 F2 g1 H2 ∧ Rep W F2 H2 x d
  stop : ∀ F1 g1 H1, Stay W F H F1 g1 H1 → J.stop ds.length H1
def tI (W : Wd) (E : XK) (f : Ev → Mo (List D)) : TI := fun σ H R => ∃ F g env, S W env σ F g H ∧ PR W E (fun ds F' g' H' => ∀ J, Dlv W F' g' H' J ds → ds.length ≤ sizeLine → R J H') F g H (f env g)
theorem _root_.L2.PI.imp {X : Cx} {tg e : Expr} {t t' : TI} (h : PI X tg e t) (i : ∀ σ H Q, t' σ H Q → t σ H Q) : PI X tg e t' := ⟨fun pins s σ H Q I w => h.run pins s σ H Q I (i σ H Q w)⟩
theorem dlv_tup {a : Addr} {vs : List V} {ds : List D} (w : Wf W F g H) (h : SqT W.K H a vs) (r : RepL W F H vs ds) : Dlv W F g H (Itt W.K a) ds where
  go := fun F1 g1 H1 x i d e => by
    obtain ⟨v, e1, rv⟩ := r.get e
    refine ⟨⟨vs, v, x.seqT h, e1⟩, fun y H2 hy => ?_⟩
    obtain ⟨rfl, hy⟩ := hy
    have q : some v = some y := e1.symm.trans (hy vs (x.seqT h))
    cases q
    exact ⟨F1, Ext.refl x.wf, rv.stay x⟩
  stop := fun F1 g1 H1 x => ⟨vs, x.seqT h, Nat.le_of_eq r.length⟩
theorem dlv_lst {a : Addr} {vs : List V} {ds : List D} (w : Wf W F g H) (k : ∀ F1 g1 H1, Stay W F H F1 g1 H1 → SqL W.K H1 a vs) (r : RepL W F H vs ds) : Dlv W F g H (Itl W.K a) ds where
  go := fun F1 g1 H1 x i d e => by
    obtain ⟨v, e1, rv⟩ := r.get e
    refine ⟨⟨vs, v, k _ _ _ x, e1⟩, fun y H2 hy => ?_⟩
    obtain ⟨rfl, hy⟩ := hy
    have q : some v = some y := e1.symm.trans (hy vs (k _ _ _ x))
    cases q
    exact ⟨F1, Ext.refl x.wf, rv.stay x⟩
  stop := fun F1 g1 H1 x => ⟨vs, k _ _ _ x, Nat.le_of_eq r.length⟩
theorem dlv_str {z : Str} : Dlv W F g H (Its z) (z.cps.toList.map fun c => .str ⟨#[c]⟩) where
  go := fun F1 g1 H1 x i d e => by
    rw [List.getElem?_map] at e
    obtain ⟨c, e1, e2⟩ := Option.map_eq_some_iff.mp e
    rw [Array.getElem?_toList] at e1
    subst e2
    refine ⟨(Array.getElem?_eq_some_iff.mp e1).1, fun y H2 hy => ?_⟩
    obtain ⟨rfl, c', e3, rfl⟩ := hy
    rw [e1] at e3
    cases e3
    exact ⟨F1, Ext.refl x.wf, .str _⟩
  stop := fun F1 g1 H1 x => by
    show z.cps.size ≤ _
    rw [List.length_map, Array.length_toList]
    exact Nat.le_refl _
theorem dlv_rng {n : Nat} {lo : Int} : Dlv W F g H (Itr lo n) ((List.range n).map fun i : Nat => D.int (lo + i)) where
  go := fun F1 g1 H1 x i d e => by
    rw [List.getElem?_map] at e
    obtain ⟨c, e1, e2⟩ := Option.map_eq_some_iff.mp e
    obtain ⟨h1, h2⟩ := List.getElem?_eq_some_iff.mp e1
    rw [List.getElem_range] at h2
    subst h2 e2
    rw [List.length_range] at h1
    refine ⟨h1, fun y H2 hy => ?_⟩
    obtain ⟨rfl, rfl⟩ := hy
    exact ⟨F1, Ext.refl x.wf, .int _⟩
  stop := fun F1 g1 H1 x => by
    show n ≤ _
    rw [List.length_map, List.length_range]
    exact Nat.le_refl _
/-- the items of a list, a tuple, a text -/
def itemsO : D → Option (List D)
  | .tup xs => some xs
  | .lst xs => some xs
  | .scr ns => some (ns.map D.int)
  | .str z => if z.cps.size ≤ lim then some (z.cps.toList.map fun c => .str ⟨#[c]⟩) else none
  | _ => none
def itemsD (d : D) : Mo (List D) := Mo.of (itemsO d)
theorem scr_keep {a : Addr} {ns : List Int} (h : (F a ∧ Rd H a (.lst (ns.map V.int))) ∨ SqL W.K (fun _ => none) a (ns.map V.int)) (x : Stay W F H F1 g1 H1) : SqL W.K H1 a (ns.map V.int) := by
  rcases h with ⟨f, h | ⟨o, h⟩⟩ | (h | ⟨o, h⟩) | h
  · exact .inl (.inl (x.fz _ _ f h fun _ z => by cases z))
  · exact .inl (.inr ⟨o, x.fz _ _ f h fun _ z => by cases z⟩)
  · cases h
  · cases h
  · exact .inr h
theorem di_seq {tg l : Expr} {fl : Ev → Mo D} (hK : X.K = W.K) (hl : PE X l (tE W E fl)) : PI X tg l (tI W E fun env => do let d ← fl env; itemsD d) :=
  (pi_seq hl).imp fun σ H R ⟨F, g, env, s, p⟩ => ⟨F, g, env, s, p.bnd fun d F1 g1 H1 x1 p1 v rv => by
    obtain ⟨ds, e, q⟩ := PR.of x1.wf p1
    rw [hK]
    cases rv with
    | tup h z r => cases e; exact .inl ⟨_, rfl, .inr ⟨⟨_, h⟩, q _ (dlv_tup x1.wf h r) z⟩⟩
    | lst f h z r => cases e; exact .inl ⟨_, rfl, .inl ⟨⟨_, .inl (.inl h)⟩, q _ (dlv_lst x1.wf (fun _ _ _ x => .inl (.inl (x.fz _ _ f h fun _ z => by cases z))) r) z⟩⟩
    | scr h z => cases e; exact .inl ⟨_, rfl, .inl ⟨⟨_, scr_sql h⟩, q _ (dlv_lst x1.wf (fun _ _ _ x => scr_keep h x) (RepL.of_ints _)) (by rw [List.length_map]; exact z)⟩⟩
    | str z =>
      have e : (if z.cps.size ≤ lim then some (z.cps.toList.map fun c => D.str ⟨#[c]⟩) else none) = some ds := e
      by_cases c : z.cps.size ≤ lim
      · rw [if_pos c] at e
        cases e
        exact .inr ⟨z, rfl, q _ dlv_str (by rw [List.length_map, Array.length_toList]; exact lim_le c)⟩
      · rw [if_neg c] at e; cases e
    | _ => cases e⟩
/-- not looked into by the kernel -/
def Small (i : Int) : Prop := -1000000 ≤ i ∧ i ≤ 1000000
instance (i : Int) : Decidable (Small i) := Classical.propDecidable _
def rngO : List D → Option (List D)
  | [.int j] => if Small j then some ((List.range j.toNat).map fun i : Nat => D.int (0 + i)) else none
  | [.int i, .int j] => if Small i ∧ Small j then some ((List.range (j - i).toNat).map fun k : Nat => D.int (i + k)) else none
  | _ => none
def rngD (n : Nat) (ds : List D) : Mo (List D) := if ds.length = n then Mo.of (rngO ds) else Mo.fail
theorem sz_line : sizeLine = 16777216 := sizeLine_eq
theorem di_range1 {tg a : Expr} {p pos : Pos} {fs : Ev → Mo (List D)} (hg : Gl X "range") (hm : X.mg "range" = none) (ha : PA X [a] (tA W E fs)) (hs : starEach [a] X.env = [(false, eval a X.env)]) :
    PI X tg (.Call (.Name "range" p) [a] [] pos) (tI W E fun env => do let as ← fs env; rngD 1 as) :=
  (pi_range1 hg hm ha hs).imp fun σ H R ⟨F, g, env, s, p⟩ => ⟨F, g, env, s, p.bnd fun as F1 g1 H1 x1 p1 vs rs => by
    obtain ⟨hl, p1⟩ := pr_if p1
    obtain ⟨ds, e, q⟩ := PR.of x1.wf p1
    match as, rs, hl with
    | [d], .cons r .nil, _ =>
      cases r with
      | int j =>
        have e : (if Small j then some ((List.range j.toNat).map fun i : Nat => D.int (0 + i)) else none) = some ds := e
        by_cases c : Small j
        · rw [if_pos c] at e
          cases e
          have hz := sz_line
          unfold Small at c
          exact ⟨j, rfl, by omega, by omega, q _ dlv_rng (by rw [List.length_map, List.length_range]; omega)⟩
        · rw [if_neg c] at e; cases e
      | _ => cases e⟩
theorem di_range2 {tg a b : Expr} {p pos : Pos} {fs : Ev → Mo (List D)} (hg : Gl X "range") (hm : X.mg "range" = none) (ha : PA X [a, b] (tA W E fs)) (hs : starEach [a, b] X.env = [(false, eval a X.env), (false, eval b X.env)]) (hs2 : starEach [b] X.env = [(false, eval b X.env)]) :
    PI X tg (.Call (.Name "range" p) [a, b] [] pos) (tI W E fun env => do let as ← fs env; rngD 2 as) :=
  (pi_range2 hg hm ha hs hs2).imp fun σ H R ⟨F, g, env, s, p⟩ => ⟨F, g, env, s, p.bnd fun as F1 g1 H1 x1 p1 vs rs => by
    obtain ⟨hl, p1⟩ := pr_if p1
    obtain ⟨ds, e, q⟩ := PR.of x1.wf p1
    match as, rs, hl with
    | [d, d'], .cons r (.cons r' .nil), _ =>
      cases r with
      | int i => cases r' with
        | int j =>
          have e : (if Small i ∧ Small j then some ((List.range (j - i).toNat).map fun k : Nat => D.int (i + k)) else none) = some ds := e
          by_cases c : Small i ∧ Small j
          · rw [if_pos c] at e
            cases e
            have hz := sz_line
            unfold Small at c
            exact ⟨i, j, rfl, ⟨by omega, by omega, by omega, by omega⟩, q _ dlv_rng (by rw [List.length_map, List.length_range]; omega)⟩
          · rw [if_neg c] at e; cases e
        | _ => cases e
      | _ => cases e⟩
/-- a list (true) or a tuple (false) with its items -/
def sideO : D → Option (Bool × List D)
  | .lst xs => some (true, xs)
  | .tup xs => some (false, xs)
  | _ => none
theorem sideO_rep {d : D} {l : Bool} {xs : List D} {v : V} (w : Wf W F g H) (e : sideO d = some (l, xs)) (r : Rep W F H v d) : ∃ a vs, v = .ref a ∧ RepL W F H vs xs ∧ xs.length ≤ sizeLine ∧ ∀ F1 g1 H1, Stay W F H F1 g1 H1 → sqS l W.K H1 a vs := by
  cases r with
  | tup h z t => cases e; exact ⟨_, _, rfl, t, z, fun _ _ _ x => x.seqT h⟩
  | lst f h z t => cases e; exact ⟨_, _, rfl, t, z, fun _ _ _ x => .inl (.inl (x.fz _ _ f h fun _ z => by cases z))⟩
  | _ => cases e
def pairs (xs ys : List D) : List D := (xs.zip ys).map fun q => .tup [q.1, q.2]
def zipO : List D → Option (List D)
  | [a, b] => match sideO a, sideO b with
    | some p, some q => some (pairs p.2 q.2)
    | _, _ => none
  | _ => none
def zipD (ds : List D) : Mo (List D) := Mo.of (zipO ds)
theorem ext_pair {x y : V} {d d' : D} {T : Addr} (w : Wf W F g H) (r : Rep W F H x d) (r' : Rep W F H y d') (hT : H T = none) : ∃ F2, Ext W F g H F2 g (upd H T (.tup [x, y])) ∧ Rep W F2 (upd H T (.tup [x, y])) (.ref T) (.tup [d, d']) :=
  ⟨F, Ext.newT w hT, .tup (.inl (.inl upd_same)) (by show 2 ≤ sizeLine; decide) (.cons (r.ext (Ext.newT w hT) w) (.cons (r'.ext (Ext.newT w hT) w) .nil))⟩
theorem dlv_zip {l1 l2 : Bool} {a b : Addr} {vs ws : List V} {xs ys : List D} (w : Wf W F g H) (k1 : ∀ F1 g1 H1, Stay W F H F1 g1 H1 → sqS l1 W.K H1 a vs) (k2 : ∀ F1 g1 H1, Stay W F H F1 g1 H1 → sqS l2 W.K H1 b ws) (r : RepL W F H vs xs) (r' : RepL W F H ws ys) :
    Dlv W F g H (ItzG W.K l1 l2 a b) (pairs xs ys) where
  go := fun F1 g1 H1 x i d e => by
    unfold pairs at e
    rw [List.getElem?_map] at e
    obtain ⟨q, e1, e2⟩ := Option.map_eq_some_iff.mp e
    have e3 : xs[i]? = some q.1 ∧ ys[i]? = some q.2 := List.getElem?_zip_eq_some.mp (by rw [e1])
    subst e2
    obtain ⟨v, f1, rv⟩ := r.get e3.1
    obtain ⟨u, f2, ru⟩ := r'.get e3.2
    refine ⟨⟨vs, ws, v, u, k1 _ _ _ x, k2 _ _ _ x, f1, f2⟩, fun y H2 hy => ?_⟩
    obtain ⟨T, x1, y1, rfl, hT, rfl, g1', g2'⟩ := hy
    have q1 : some v = some x1 := f1.symm.trans (g1' vs (k1 _ _ _ x))
    have q2 : some u = some y1 := f2.symm.trans (g2' ws (k2 _ _ _ x))
    cases q1
    cases q2
    exact ext_pair x.wf (rv.stay x) (ru.stay x) hT
  stop := fun F1 g1 H1 x => ⟨vs, ws, k1 _ _ _ x, k2 _ _ _ x, by unfold pairs; rw [List.length_map, List.length_zip, r.length, r'.length]⟩
theorem di_zip {e e2 : Expr} {p pos tpos : Pos} {elts : List Expr} {kk : Nat} {fs : Ev → Mo (List D)} (hK : X.K = W.K) (hg : Gl X "zip") (hm : X.mg "zip" = none) (ha : PA X [e, e2] (tA W E fs))
    (hs : starEach [e, e2] X.env = (false, eval e X.env) :: starEach [e2] X.env) (hpl : (backTo pos (starEach [e2] X.env)).any (·.1) = false) :
    PI X (.Tuple elts kk tpos) (.Call (.Name "zip" p) [e, e2] [] pos) (tI W E fun env => do let as ← fs env; zipD as) :=
  (pi_zipG hg hm ha hs hpl).imp fun σ H R ⟨F, g, env, s, p⟩ => ⟨F, g, env, s, p.bnd fun as F1 g1 H1 x1 p1 vs rs => by
    obtain ⟨ds, e, q⟩ := PR.of x1.wf p1
    rw [hK]
    match as, rs with
    | [a, b], .cons ra (.cons rb .nil) =>
      have e : (match sideO a, sideO b with
        | some p, some q => some (pairs p.2 q.2)
        | _, _ => none) = some ds := e
      cases e1 : sideO a with
      | none => rw [e1] at e; cases e
      | some pa =>
        cases e2 : sideO b with
        | none => rw [e1, e2] at e; cases e
        | some pb =>
          rw [e1, e2] at e
          cases e
          obtain ⟨a', us, rfl, r1, z1, k1⟩ := sideO_rep x1.wf (show sideO a = some (pa.1, pa.2) from e1) ra
          obtain ⟨b', ws, rfl, r2, z2, k2⟩ := sideO_rep x1.wf (show sideO b = some (pb.1, pb.2) from e2) rb
          refine ⟨pa.1, pb.1, a', b', us, ws, rfl, k1 _ _ _ ((Ext.refl x1.wf).stay x1.wf), k2 _ _ _ ((Ext.refl x1.wf).stay x1.wf), q _ (dlv_zip x1.wf k1 k2 r1 r2) ?_⟩
          show (pairs pa.2 pb.2).length ≤ sizeLine
          unfold pairs
          rw [List.length_map, List.length_zip]
          exact Nat.le_trans (Nat.min_le_left _ _) z1
    | [], .nil => cases e
    | [_], .cons _ .nil => cases e
    | _ :: _ :: _ :: _, .cons _ (.cons _ (.cons _ _)) => cases e⟩
def enumL (xs : List D) : List D := xs.zipIdx.map fun q => .tup [.int (q.2 : Nat), q.1]
def enumO : List D → Option (List D)
  | [a] => (sideO a).map fun p => enumL p.2
  | _ => none
def enumD (ds : List D) : Mo (List D) := Mo.of (enumO ds)
theorem dlv_enum {l : Bool} {a : Addr} {vs : List V} {xs : List D} (w : Wf W F g H) (k1 : ∀ F1 g1 H1, Stay W F H F1 g1 H1 → sqS l W.K H1 a vs) (r : RepL W F H vs xs) : Dlv W F g H (IteG W.K l a) (enumL xs) where
  go := fun F1 g1 H1 x i d e => by
    unfold enumL at e
    rw [List.getElem?_map] at e
    obtain ⟨q, e1, e2⟩ := Option.map_eq_some_iff.mp e
    rw [List.getElem?_zipIdx] at e1
    obtain ⟨d', e3, e4⟩ := Option.map_eq_some_iff.mp e1
    subst e2 e4
    obtain ⟨v, f1, rv⟩ := r.get e3
    refine ⟨⟨vs, v, k1 _ _ _ x, f1⟩, fun y H2 hy => ?_⟩
    obtain ⟨T, x1, rfl, hT, rfl, g1'⟩ := hy
    have q1 : some v = some x1 := f1.symm.trans (g1' vs (k1 _ _ _ x))
    cases q1
    have ez : (0 + i : Nat) = i := Nat.zero_add i
    show ∃ F2, Ext W F1 g1 H1 F2 g1 _ ∧ Rep W F2 _ (.ref T) (.tup [.int ((0 + i : Nat) : Int), d'])
    rw [ez]
    exact ext_pair x.wf (.int _) (rv.stay x) hT
  stop := fun F1 g1 H1 x => ⟨vs, k1 _ _ _ x, by unfold enumL; rw [List.length_map, List.length_zipIdx, r.length]⟩
theorem di_enum {e : Expr} {p pos tpos : Pos} {elts : List Expr} {kk : Nat} {fs : Ev → Mo (List D)} (hK : X.K = W.K) (hg : Gl X "enumerate") (hm : X.mg "enumerate" = none) (ha : PA X [e] (tA W E fs)) (hs : starEach [e] X.env = [(false, eval e X.env)]) :
    PI X (.Tuple elts kk tpos) (.Call (.Name "enumerate" p) [e] [] pos) (tI W E fun env => do let as ← fs env; enumD as) :=
  (pi_enumG hg hm ha hs).imp fun σ H R ⟨F, g, env, s, p⟩ => ⟨F, g, env, s, p.bnd fun as F1 g1 H1 x1 p1 vs rs => by
    obtain ⟨ds, e, q⟩ := PR.of x1.wf p1
    rw [hK]
    match as, rs with
    | [a], .cons ra .nil =>
      obtain ⟨pa, e1, e2⟩ := Option.map_eq_some_iff.mp (show (sideO a).map (fun p => enumL p.2) = some ds from e)
      subst e2
      obtain ⟨a', us, rfl, r1, z1, k1⟩ := sideO_rep x1.wf (show sideO a = some (pa.1, pa.2) from e1) ra
      exact ⟨pa.1, a', us, rfl, k1 _ _ _ ((Ext.refl x1.wf).stay x1.wf), q _ (dlv_enum x1.wf k1 r1) (by unfold enumL; rw [List.length_map, List.length_zipIdx]; exact z1)⟩
    | [], .nil => cases e
    | _ :: _ :: _, .cons _ (.cons _ _) => cases e⟩

/-! ### targets -/
/-- only the slots sl are otherwise -/
def Only (sl : List Nat) (σ σ' : St) : Prop := σ'.length = σ.length ∧ ∀ j : Nat, j ∉ sl → σ'[j]? = σ[j]?
theorem Only.refl (sl : List Nat) (σ : St) : Only sl σ σ := ⟨rfl, fun _ _ => rfl⟩
theorem Only.trans {sl sl' : List Nat} {σ σ1 σ2 : St} (a : Only sl σ σ1) (b : Only sl' σ1 σ2) : Only (sl ++ sl') σ σ2 :=
  ⟨b.1.trans a.1, fun j h => (b.2 j fun m => h (List.mem_append.mpr (.inr m))).trans (a.2 j fun m => h (List.mem_append.mpr (.inl m)))⟩
theorem S.set {env : Ev} {σ : St} {i : Nat} {v : V} {d : D} (s : S W env σ F g H) (r : Rep W F H v d) : S W (env.set i (.dat d)) (σ.set i (some v)) F g H where
  wf := s.wf
  len := by rw [List.length_set, List.length_set, s.len]
  at_ := fun j sl e => by
    by_cases h : i = j
    · subst h
      by_cases hl : i < env.length
      · rw [List.getElem?_set_self hl] at e
        cases e
        exact ⟨some v, List.getElem?_set_self (by rw [← s.len]; exact hl), v, rfl, r⟩
      · rw [List.getElem?_eq_none (by rw [List.length_set]; omega)] at e
        cases e
    · rw [List.getElem?_set_ne h] at e ⊢
      exact s.at_ j sl e
  ap := fun j k xs ys a e1 e2 e3 e4 => by
    have n1 : i ≠ j := fun h => by
      subst h
      by_cases hl : i < env.length
      · rw [List.getElem?_set_self hl] at e1; cases e1
      · rw [List.getElem?_eq_none (by rw [List.length_set]; omega)] at e1; cases e1
    have n2 : i ≠ k := fun h => by
      subst h
      by_cases hl : i < env.length
      · rw [List.getElem?_set_self hl] at e2; cases e2
      · rw [List.getElem?_eq_none (by rw [List.length_set]; omega)] at e2; cases e2
    rw [List.getElem?_set_ne n1] at e1 e3
    rw [List.getElem?_set_ne n2] at e2 e4
    exact s.ap j k xs ys a e1 e2 e3 e4
/-- the cells of env' are those of env -/
def Kc (env env' : Ev) (σ σ' : St) : Prop := ∀ (i : Nat) (xs : List D), env'[i]? = some (.cel xs) → env[i]? = some (.cel xs) ∧ σ'[i]? = σ[i]?
theorem Kc.refl (env : Ev) (σ : St) : Kc env env σ σ := fun _ _ h => ⟨h, rfl⟩
theorem Kc.trans {e1 e2 e3 : Ev} {σ1 σ2 σ3 : St} (a : Kc e1 e2 σ1 σ2) (b : Kc e2 e3 σ2 σ3) : Kc e1 e3 σ1 σ3 := fun i xs h => ⟨(a i xs (b i xs h).1).1, (b i xs h).2.trans (a i xs (b i xs h).1).2⟩
theorem kc_set {env : Ev} {σ : St} {i : Nat} {d : D} {o : Option V} : Kc env (env.set i (.dat d)) σ (σ.set i o) := fun j xs h => by
  have n : i ≠ j := fun e => by
    subst e
    by_cases hl : i < env.length
    · rw [List.getElem?_set_self hl] at h; cases h
    · rw [List.getElem?_eq_none (by rw [List.length_set]; omega)] at h; cases h
  rw [List.getElem?_set_ne n] at h
  exact ⟨h, List.getElem?_set_ne n⟩
def tG (W : Wd) (sl : List Nat) (f : D → Ev → Option Ev) : TG := fun v σ H Q => ∃ F g env d env', S W env σ F g H ∧ Rep W F H v d ∧ f d env = some env' ∧ ∀ σ', S W env' σ' F g H → Only sl σ σ' → Kc env env' σ σ' → Q σ' H
def tGs (W : Wd) (sl : List Nat) (f : List D → Ev → Option Ev) : TGs := fun vs σ H Q => ∃ F g env ds env', S W env σ F g H ∧ RepL W F H vs ds ∧ f ds env = some env' ∧ ∀ σ', S W env' σ' F g H → Only sl σ σ' → Kc env env' σ σ' → Q σ' H
theorem _root_.L2.PG.imp {X : Cx} {e : Expr} {t t' : TG} (h : PG X e t) (i : ∀ v σ H Q, t' v σ H Q → t v σ H Q) : PG X e t' := ⟨fun pins s σ H v u Q I r w => h.run pins s σ H v u Q I r (i v σ H Q w)⟩
theorem _root_.L2.PGs.imp {X : Cx} {e : List Expr} {t t' : TGs} (h : PGs X e t) (i : ∀ v σ H Q, t' v σ H Q → t v σ H Q) : PGs X e t' := ⟨fun pins s σ H v u Q I r w => h.run pins s σ H v u Q I r (i v σ H Q w)⟩
def asgN (i : Nat) (d : D) (env : Ev) : Option Ev := some (env.set i (.dat d))
theorem only_set {i : Nat} {o : Option V} {σ : St} : Only [i] σ (σ.set i o) := ⟨List.length_set .., fun j h => List.getElem?_set_ne (fun e => h (by simp [e]))⟩
theorem dg_name {i : Nat} {x : Str} {pos : Pos} (hN : X.N.Nodup) (hi : X.N[i]? = some x) (hx : Loc X.env.scope x) (hf : X.fn x = true ∨ X.env.scope.names.lookup x = some .local) : PG X (.Name x pos) (tG W [i] (asgN i)) :=
  (pg_name hN hi hx hf).imp fun v σ H Q ⟨F, g, env, d, env', s, r, e, q⟩ => by
    cases e
    exact q _ (s.set r) only_set kc_set
def asgNil (ds : List D) (env : Ev) : Option Ev := match ds with
  | [] => some env
  | _ => none
def asgCons (f : D → Ev → Option Ev) (fs : List D → Ev → Option Ev) (ds : List D) (env : Ev) : Option Ev := match ds with
  | d :: ds => (f d env).bind (fs ds)
  | [] => none
theorem dgs_nil : PGs X [] (tGs W [] asgNil) := pgs_nil.imp fun vs σ H Q ⟨F, g, env, ds, env', s, r, e, q⟩ => by
  cases r with
  | nil => cases e; exact ⟨rfl, q _ s (Only.refl _ _) (Kc.refl _ _)⟩
  | cons _ _ => cases e
theorem dgs_cons {e : Expr} {es : List Expr} {sl sl' : List Nat} {f : D → Ev → Option Ev} {fs : List D → Ev → Option Ev} (h1 : PG X e (tG W sl f)) (h2 : PGs X es (tGs W sl' fs)) (hs : (assignEach (e :: es) X.env).map (·.2) = assign e X.env :: (assignEach es X.env).map (·.2)) :
    PGs X (e :: es) (tGs W (sl ++ sl') (asgCons f fs)) := (pgs_cons h1 h2 hs).imp fun vs σ H Q ⟨F, g, env, ds, env', s, r, e, q⟩ => by
  cases r with
  | nil => cases e
  | cons rd rs =>
    obtain ⟨env1, e1, e2⟩ := Option.bind_eq_some_iff.mp (show (f _ env).bind (fs _) = some env' from e)
    exact ⟨_, _, rfl, F, g, env, _, env1, s, rd, e1, fun σ1 s1 o1 k1 => ⟨F, g, env1, _, env', s1, rs, e2, fun σ2 s2 o2 k2 => q σ2 s2 (o1.trans o2) (k1.trans k2)⟩⟩
def asgT (n : Nat) (fs : List D → Ev → Option Ev) (d : D) (env : Ev) : Option Ev := match d with
  | .tup xs => if xs.length = n then fs xs env else none
  | _ => none
theorem dg_tup {es : List Expr} {k : Nat} {n : Nat} {pos : Pos} {sl : List Nat} {fs : List D → Ev → Option Ev} (hK : X.K = W.K) (hc : X.calm = true) (h : PGs X es (tGs W sl fs)) (hn : (assignEach es X.env).length = n) (hst : (assignEach es X.env).findIdx? (·.1) = none) :
    PG X (.Tuple es k pos) (tG W sl (asgT n fs)) := (pg_tup hc h hn hst).imp fun v σ H Q ⟨F, g, env, d, env', s, r, e, q⟩ => by
  rw [hK]
  cases r with
  | @tup a vs xs h z t =>
    have e : (if xs.length = n then fs xs env else none) = some env' := e
    by_cases c : xs.length = n
    · rw [if_pos c] at e
      exact ⟨_, _, rfl, h, by rw [t.length, c], F, g, env, _, env', s, t, e, q⟩
    · rw [if_neg c] at e; cases e
  | _ => cases e
end
end TL
end
end

-- text TlJ
section
set_option maxHeartbeats 4000000
set_option autoImplicit false
noncomputable section
namespace TL
open PySem PySem.Spec L2
open PyProof.Rows hiding St
/-! ### list comprehensions -/
def nox {α : Type} (m : Mo α) : Mo α := fun g => match m g with
  | .ok a g' => .ok a g'
  | _ => .stuck
theorem nox_ok {α : Type} {m : Mo α} {g : G} : (∃ a g', m g = .ok a g' ∧ nox m g = .ok a g') ∨ nox m g = .stuck := by
  unfold nox
  cases m g with
  | ok a g' => exact .inl ⟨a, g', rfl, rfl⟩
  | exc c g' => exact .inr rfl
  | stuck => exact .inr rfl
def wipeE (env : Ev) : List Nat → Ev
  | [] => env
  | v :: vs => (wipeE env vs).set v .un
/-- one turn: the element, or none -/
def compOne (tg : D → Ev → Option Ev) (tt : Ev → Mo Bool) (el : Ev → Mo D) (env : Ev) (d : D) : Mo (Option D) := do
  let env' ← Mo.of (tg d env)
  let b ← nox (tt env')
  if b = true then do
    let y ← nox (el env')
    pure (some y)
  else pure none
def compGo (one : D → Mo (Option D)) : List D → Mo (List D)
  | [] => pure []
  | d :: ds => do
    let o ← one d
    let r ← compGo one ds
    pure (match o with
      | some y => y :: r
      | none => r)
section
variable {W : Wd} {X : Cx} {E : XK} {F F1 F2 : Fz} {g g1 g2 : G} {H H1 H2 : Hp}
theorem S.unset {env : Ev} {σ : St} (s : S W env σ F g H) (v : Nat) : S W (env.set v .un) (σ.set v none) F g H where
  wf := s.wf
  len := by rw [List.length_set, List.length_set, s.len]
  at_ := fun j sl e => by
    by_cases h : v = j
    · subst h
      by_cases hl : v < env.length
      · rw [List.getElem?_set_self hl] at e
        cases e
        exact ⟨none, List.getElem?_set_self (by rw [← s.len]; exact hl), trivial⟩
      · rw [List.getElem?_eq_none (by rw [List.length_set]; omega)] at e
        cases e
    · rw [List.getElem?_set_ne h] at e ⊢
      exact s.at_ j sl e
  ap := fun j k xs ys a e1 e2 e3 e4 => by
    have nn : ∀ {j : Nat} {xs : List D}, (env.set v .un)[j]? = some (.cel xs) → v ≠ j := fun {j xs} e1 h => by
      subst h
      by_cases hl : v < env.length
      · rw [List.getElem?_set_self hl] at e1; cases e1
      · rw [List.getElem?_eq_none (by rw [List.length_set]; omega)] at e1; cases e1
    have n1 := nn e1
    have n2 := nn e2
    rw [List.getElem?_set_ne n1] at e1 e3
    rw [List.getElem?_set_ne n2] at e2 e4
    exact s.ap j k xs ys a e1 e2 e3 e4
theorem S.wipe {env : Ev} {σ : St} (s : S W env σ F g H) : ∀ vs : List Nat, S W (wipeE env vs) (L2.wipe σ vs) F g H
  | [] => s
  | v :: vs => (S.wipe s vs).unset v
theorem wipe_get {σ : St} {j : Nat} : ∀ {vs : List Nat}, j ∈ vs → j < σ.length → (L2.wipe σ vs)[j]? = some none
  | v :: vs, h, hl => by
    show ((L2.wipe σ vs).set v none)[j]? = some none
    by_cases e : v = j
    · rw [e, List.getElem?_set_self (by rw [wipe_length]; exact hl)]
    · rw [List.getElem?_set_ne e]
      rcases List.mem_cons.mp h with q | q
      · exact absurd q.symm e
      · exact wipe_get q hl
theorem only_wipe {sl vs : List Nat} {σ σ' : St} (h : ∀ j, j ∈ sl → j ∈ vs) (o : Only sl (L2.wipe σ vs) σ') : L2.wipe σ' vs = L2.wipe σ vs := by
  have hl : σ'.length = σ.length := by rw [o.1, wipe_length]
  apply List.ext_getElem?
  intro j
  by_cases hj : j < σ.length
  · by_cases hm : j ∈ vs
    · rw [wipe_get hm (by rw [hl]; exact hj), wipe_get hm hj]
    · rw [wipe_out hm, o.2 j fun q => hm (h j q)]
  · rw [List.getElem?_eq_none (by rw [wipe_length, hl]; omega), List.getElem?_eq_none (by rw [wipe_length]; omega)]
theorem PR.eqs {α : Type} {P : α → Fz → G → Hp → Prop} {r r' : Res α} (e : r = r') (p : PR W E P F g H r) : PR W E P F g H r' := e ▸ p
/-- the last of a binding: what went before is known -/
theorem PR.at_ {α β : Type} {P : β → Fz → G → Hp → Prop} {m : Mo α} {k : α → Mo β} {g0 g' : G} {a : α} (e : m g0 = .ok a g') (p : PR W E P F g H ((m >>= k) g0)) : PR W E P F g H (k a g') := by
  have q : (m >>= k) g0 = (match m g0 with
    | .ok a g' => k a g'
    | .exc c g' => .exc c g'
    | .stuck => .stuck) := rfl
  rw [q, e] at p
  exact p
theorem PR.nstuck {α β : Type} {P : β → Fz → G → Hp → Prop} {m : Mo α} {k : α → Mo β} {g0 : G} (e : m g0 = .stuck) (p : PR W E P F g H ((m >>= k) g0)) : False := by
  have q : (m >>= k) g0 = (match m g0 with
    | .ok a g' => k a g'
    | .exc c g' => .exc c g'
    | .stuck => .stuck) := rfl
  rw [q, e] at p
  exact p
theorem RepL.snoc {vs : List V} {ds : List D} {v : V} {d : D} (r : RepL W F H vs ds) (q : Rep W F H v d) : RepL W F H (vs ++ [v]) (ds ++ [d]) := r.append (.cons q .nil)
/-- the state of a comprehension's loop: (F1, g1, H1) ahead of it, the new list at D0 -/
structure LcS (W : Wd) (F1 : Fz) (g1 : G) (H1 : Hp) (env : Ev) (σ : St) (D0 : Addr) (done : List D) (F : Fz) (g : G) (H : Hp) : Prop where
  s : S W env σ F g H
  x : Ext W F1 g1 H1 F g H
  d : ∃ vs, H D0 = some (.lst vs) ∧ RepL W F H vs done
  nf : ¬ F D0
theorem LcS.mg {env : Ev} {σ : St} {D0 : Addr} {done : List D} (l : LcS W F1 g1 H1 env σ D0 done F g H) (hn : H1 D0 = none) (w1 : Wf W F1 g1 H1) : True := trivial
/-- writing the list that is being made: nothing else knows it -/
theorem lc_write {env : Ev} {σ : St} {D0 : Addr} {vs ws : List V} {done : List D} {d : D} {v : V} (s : S W env σ F g H) (hd : H D0 = some (.lst vs)) (nf : ¬ F D0) (nm : ¬ Mg g D0) (nc : ∀ (i : Nat) (xs : List D) (a : Addr), env[i]? = some (.cel xs) → σ[i]? = some (some (.ref a)) → a ≠ D0) :
    S W env σ F g (upd H D0 (.lst ws)) ∧ ∀ {u : V} {e : D}, Rep W F H u e → Rep W F (upd H D0 (.lst ws)) u e := by
  have key : ∀ b o, H b = some o → b ≠ D0 → upd H D0 (.lst ws) b = some o := fun b o e h => by rw [upd_ne h]; exact e
  have ft : ∀ b, F b → b ≠ D0 := fun b f e => nf (e ▸ f)
  have tt : ∀ b xs, H b = some (.tup xs) → b ≠ D0 := fun b xs e q => by rw [q, hd] at e; cases e
  have tz : ∀ b o u, H b = some (.frz o u) → b ≠ D0 := fun b o u e q => by rw [q, hd] at e; cases e
  have gm : ∀ b, Mg g b → b ≠ D0 := fun b m e => nm (e ▸ m)
  have kT : ∀ {a : Addr} {us : List V}, SqT W.K H a us → SqT W.K (upd H D0 (.lst ws)) a us := fun {a us} h => by
    rcases h with (h | ⟨o, h⟩) | h
    · exact .inl (.inl (key _ _ h (tt _ _ h)))
    · exact .inl (.inr ⟨o, key _ _ h (tz _ _ _ h)⟩)
    · exact .inr h
  have rep : ∀ {u : V} {e : D}, Rep W F H u e → Rep W F (upd H D0 (.lst ws)) u e := by
    intro u e r
    refine Rep.rec (motive_1 := fun u e _ => Rep W F (upd H D0 (.lst ws)) u e) (motive_2 := fun us es _ => RepL W F (upd H D0 (.lst ws)) us es) .non (fun b => .bl b) (fun b => .int b) (fun b => .str b) (fun h z _ ih => .tup (kT h) z ih) (fun f h z _ ih => .lst f (key _ _ h (ft _ f)) z ih)
      (fun f h => .dnil f (key _ _ h (ft _ f))) (fun h z => .scr ?_ z) (fun a => .ptr a) (fun f h m => .exc f (key _ _ h (ft _ f)) m) .nil (fun _ _ i1 i2 => .cons i1 i2) r
    rcases h with ⟨f, h | ⟨o, h⟩⟩ | h
    · exact .inl ⟨f, .inl (key _ _ h (ft _ f))⟩
    · exact .inl ⟨f, .inr ⟨o, key _ _ h (ft _ f)⟩⟩
    · exact .inr h
  have repL : ∀ {us : List V} {es : List D}, RepL W F H us es → RepL W F (upd H D0 (.lst ws)) us es := by
    intro us es r
    induction us generalizing es with
    | nil => cases r; exact .nil
    | cons u us ih => cases r with
      | cons a b => exact .cons (rep a) (ih b)
  refine ⟨⟨⟨fun b f => ?_, s.wf.nm, ?_, fun p hp => ?_⟩, s.len, fun i sl e => ?_, s.ap⟩, rep⟩
  · obtain ⟨o, e⟩ := s.wf.al b f
    exact ⟨o, key _ _ e (ft _ f)⟩
  · cases g with
    | none => trivial
    | some t =>
      obtain ⟨h1, h2, h3, h4⟩ := s.wf.ok
      exact ⟨key _ _ h1 (gm _ ⟨t, rfl, .inl rfl⟩), key _ _ h2 (gm _ ⟨t, rfl, .inr (.inl rfl)⟩), key _ _ h3 (gm _ ⟨t, rfl, .inr (.inr rfl)⟩), h4⟩
  · obtain ⟨ps, h1, h2, h3⟩ := s.wf.tb p hp
    refine ⟨ps, key _ _ h1 (fun q => by rw [q, hd] at h1; cases h1), h2, fun pos cv hc => ?_⟩
    obtain ⟨c, e1, e2⟩ := h3 pos cv hc
    exact ⟨c, e1, key _ _ e2 (fun q => by rw [q, hd] at e2; unfold LamX.CodeO at e2; cases e2)⟩
  · obtain ⟨o, e1, k⟩ := s.at_ i sl e
    refine ⟨o, e1, ?_⟩
    cases sl with
    | un => trivial
    | dat d =>
      obtain ⟨v, e2, r⟩ := k
      exact ⟨v, e2, rep r⟩
    | cel xs =>
      obtain ⟨a, us, e2, h1, r, z, n1, n2⟩ := k
      exact ⟨a, us, e2, key _ _ h1 (nc i xs a e (by rw [e1, e2])), repL r, z, n1, n2⟩
end
end TL
end
end

-- text TlK
section
set_option maxHeartbeats 4000000
set_option autoImplicit false
noncomputable section
namespace TL
open PySem PySem.Spec L2
open PyProof.Rows hiding St
abbrev XN : XK := fun _ _ _ => False
section
variable {W : Wd} {X : Cx} {E : XK} {F F1 F2 : Fz} {g g1 g2 : G} {H H1 H2 : Hp}
theorem Ext.nm (x : Ext W F g H F1 g1 H1) {a : Addr} {o : HO} (e : H a = some o) (n : ¬ Mg g a) : ¬ Mg g1 a := fun m => by
  rcases x.mn a m with q | q
  · exact n q
  · rw [q] at e; cases e
theorem Ext.nf (x : Ext W F g H F1 g1 H1) {a : Addr} {o : HO} (e : H a = some o) (n : ¬ F a) : ¬ F1 a := fun m => by
  rcases x.fn a m with q | q
  · exact n q
  · rw [q] at e; cases e
theorem mo_bind {α β : Type} {m : Mo α} {k : α → Mo β} {b : β} {g0 g' : G} (h : (m >>= k) g0 = .ok b g') : ∃ a g2, m g0 = .ok a g2 ∧ k a g2 = .ok b g' := by
  have q : (m >>= k) g0 = (match m g0 with
    | .ok a g' => k a g'
    | .exc c g' => .exc c g'
    | .stuck => .stuck) := rfl
  rw [q] at h
  cases e : m g0 with
  | ok a g2 => rw [e] at h; exact ⟨a, g2, rfl, h⟩
  | exc c g2 => rw [e] at h; cases h
  | stuck => rw [e] at h; cases h
theorem mo_of {α : Type} {o : Option α} {a : α} {g0 g' : G} (h : Mo.of o g0 = .ok a g') : o = some a ∧ g' = g0 := by
  cases o with
  | none => cases h
  | some b =>
    have h : Res.ok b g0 = Res.ok a g' := h
    cases h
    exact ⟨rfl, rfl⟩
theorem mo_nox {α : Type} {m : Mo α} {a : α} {g0 g' : G} (h : nox m g0 = .ok a g') : m g0 = .ok a g' := by
  rcases nox_ok (m := m) (g := g0) with ⟨b, g2, e1, e2⟩ | e
  · rw [e2] at h; cases h; exact e1
  · rw [e] at h; cases h
theorem bind_ok {α β : Type} {m : Mo α} {k : α → Mo β} {a : α} {g0 g' : G} (h : m g0 = .ok a g') : (m >>= k) g0 = k a g' := by
  have q : (m >>= k) g0 = (match m g0 with
    | .ok a g' => k a g'
    | .exc c g' => .exc c g'
    | .stuck => .stuck) := rfl
  rw [q, h]
theorem bind_stuck {α β : Type} {m : Mo α} {k : α → Mo β} {g0 : G} (h : m g0 = .stuck) : (m >>= k) g0 = .stuck := by
  have q : (m >>= k) g0 = (match m g0 with
    | .ok a g' => k a g'
    | .exc c g' => .exc c g'
    | .stuck => .stuck) := rfl
  rw [q, h]
theorem bind_exc {α β : Type} {m : Mo α} {k : α → Mo β} {c : Str} {g0 g' : G} (h : m g0 = .exc c g') : (m >>= k) g0 = .exc c g' := by
  have q : (m >>= k) g0 = (match m g0 with
    | .ok a g' => k a g'
    | .exc c g' => .exc c g'
    | .stuck => .stuck) := rfl
  rw [q, h]
theorem compOne_res {tg : D → Ev → Option Ev} {tt : Ev → Mo Bool} {el : Ev → Mo D} {env : Ev} {d : D} {g0 : G} : (∃ o g', compOne tg tt el env d g0 = .ok o g') ∨ compOne tg tt el env d g0 = .stuck := by
  unfold compOne
  cases e : tg d env with
  | none => exact .inr rfl
  | some env' =>
    rw [show (Mo.of (some env') : Mo Ev) = pure env' from rfl, bind_ok (m := (pure env' : Mo Ev)) (a := env') (g' := g0) rfl]
    rcases nox_ok (m := tt env') (g := g0) with ⟨b, g2, _, e2⟩ | e2
    · rw [bind_ok e2]
      cases b with
      | false => exact .inl ⟨none, g2, rfl⟩
      | true =>
        rw [if_pos rfl]
        rcases nox_ok (m := el env') (g := g2) with ⟨y, g3, _, e3⟩ | e3
        · exact .inl ⟨some y, g3, by rw [bind_ok e3]; rfl⟩
        · exact .inr (by rw [bind_stuck e3])
    · exact .inr (by rw [bind_stuck e2])
theorem compOne_some {tg : D → Ev → Option Ev} {tt : Ev → Mo Bool} {el : Ev → Mo D} {env : Ev} {d : D} {o : Option D} {g0 g' : G} (h : compOne tg tt el env d g0 = .ok o g') :
    ∃ env' b g2, tg d env = some env' ∧ tt env' g0 = .ok b g2 ∧ ((b = true ∧ ∃ y, o = some y ∧ el env' g2 = .ok y g') ∨ (b = false ∧ o = none ∧ g' = g2)) := by
  unfold compOne at h
  obtain ⟨env', g1, h1, h2⟩ := mo_bind h
  obtain ⟨e1, rfl⟩ := mo_of h1
  obtain ⟨b, g2, h3, h4⟩ := mo_bind h2
  refine ⟨env', b, g2, e1, mo_nox h3, ?_⟩
  cases b with
  | true =>
    rw [if_pos rfl] at h4
    obtain ⟨y, g3, h5, h6⟩ := mo_bind h4
    have h6 : Res.ok (some y) g3 = Res.ok o g' := h6
    cases h6
    exact .inl ⟨rfl, y, rfl, mo_nox h5⟩
  | false =>
    rw [if_neg Bool.false_ne_true] at h4
    have h4 : Res.ok none g2 = Res.ok o g' := h4
    cases h4
    exact .inr ⟨rfl, rfl, rfl⟩
/-- an expression that makes a list: the data of its items -/
abbrev PL (W : Wd) (H : Hp) (Q : VK) (done : List D) : List D → Fz → G → Hp → Prop := fun r F' g' H' => ∀ p vs, H p = none → H' p = some (.lst vs) → ¬ F' p → ¬ Mg g' p → RepL W F' H' vs (done ++ r) → (done ++ r).length ≤ sizeLine → Q (.ref p) H'
def tL (W : Wd) (E : XK) (f : Ev → Mo (List D)) : TE := fun σ H Q => ∃ F g env, S W env σ F g H ∧ PR W E (PL W H Q []) F g H (f env g)
theorem Ext.plus (x : Ext W F g H F1 g1 H1) {q : Addr} {o : HO} (hn : H q = none) (hq : H1 q = some o) (nm : ¬ Mg g1 q) : Ext W F g H (plusF F1 q) g1 H1 :=
  ⟨x.kp, fun b f => .inl (x.fs b f), fun b f => by
      rcases f with f | rfl
      · exact x.fn b f
      · exact .inr hn, x.mn, x.th, ⟨fun b f => by
        rcases f with f | rfl
        · exact x.wf.al b f
        · exact ⟨_, hq⟩, fun b f => by
        rcases f with f | rfl
        · exact x.wf.nm b f
        · exact nm, x.wf.ok, x.wf.tb⟩⟩
/-- .. frozen at once -/
theorem tL_of {f : Ev → Mo (List D)} : ∀ σ H Q, tE W E (fun env => do let ds ← f env; pure (.lst ds)) σ H Q → tL W E f σ H Q := fun σ H Q ⟨F, g, env, s, p⟩ =>
  ⟨F, g, env, s, by
    have p : PR W E (PQ W Q) F g H ((f env >>= fun ds => pure (.lst ds)) g) := p
    cases q : f env g with
    | ok ds g1 =>
      rw [bind_ok q] at p
      exact fun F1 H1 x1 b vs hn hq nf nm r z => p (plusF F1 b) H1 (x1.plus hn hq nm) _ (.lst (.inr rfl) hq z (r.less fun _ _ f _ => .inl f))
    | exc c g1 => rw [bind_exc q] at p; exact p
    | stuck => rw [bind_stuck q] at p; exact p⟩
/-- the loop of a comprehension, at its i-th turn -/
structure LcI (W : Wd) (E : XK) (Q : VK) (H0 : Hp) (F1 : Fz) (g1 : G) (H1 : Hp) (env : Ev) (σ : St) (D0 : Addr) (one : D → Mo (Option D)) (rest : List D) (i : Nat) (H : Hp) : Prop where
  ex : ∃ F g done vs, S W env σ F g H ∧ Ext W F1 g1 H1 F g H ∧ H D0 = some (.lst vs) ∧ RepL W F H vs done ∧ ¬ F D0 ∧ ¬ Mg g D0 ∧ done.length ≤ i ∧
    PR W E (PL W H0 Q done) F1 g1 H1 (compGo one rest g)
theorem tLc_impL {fi : Ev → Mo (List D)} {sl vs : List Nat} {tg : D → Ev → Option Ev} {tt : Ev → Mo Bool} {el : Ev → Mo D} (hsl : ∀ j, j ∈ sl → j ∈ vs) :
    ∀ σ H Q, tL W E (fun env => do let ds ← fi env; compGo (compOne tg tt el (wipeE env vs)) ds) σ H Q → tLc (tI W E fi) (tG W sl tg) (tT W XN tt) (tE W XN el) vs σ H Q := by
  rintro σ H0 Q ⟨F, g, env, s, p⟩
  refine ⟨F, g, env, s, p.bnd fun ds F1 g1 H1 x1 p1 J dlv hz D0 hD0 => ?_⟩
  have s1 := s.ext x1
  have s1w := s1.wipe vs
  have nc : ∀ (i : Nat) (xs : List D) (a : Addr), (wipeE env vs)[i]? = some (.cel xs) → (L2.wipe σ vs)[i]? = some (some (.ref a)) → a ≠ D0 := fun i xs a e1 e2 q => by
    obtain ⟨o, h1, a', us, h2, h3, _⟩ := s1w.at_ i _ e1
    rw [e2] at h1
    cases h1
    cases h2
    rw [q, hD0] at h3
    cases h3
  refine ⟨fun i m H => m = ds.length - i ∧ i ≤ ds.length ∧ LcI W E Q H0 F1 g1 H1 (wipeE env vs) (L2.wipe σ vs) D0 (compOne tg tt el (wipeE env vs)) (ds.drop i) i H, ⟨ds.length, by simp, Nat.zero_le _, ?_⟩, ?_⟩
  · have xn : Ext W F1 g1 H1 F1 g1 (upd H1 D0 (.lst [])) := Ext.newT x1.wf hD0
    refine ⟨F1, g1, [], [], s1w.ext xn, xn, upd_same, .nil, fun f => ?_, x1.wf.ok.nnew hD0, Nat.zero_le _, by rw [List.drop_zero]; exact p1⟩
    obtain ⟨o, e⟩ := x1.wf.al D0 f
    rw [hD0] at e; cases e
  · rintro i m H ⟨rfl, hi, F, g, done, us, sc, xc, hd, rd, nf, nm, hl, pc⟩
    by_cases hlt : i < ds.length
    · have hget : ds[i]? = some ds[i] := List.getElem?_eq_getElem hlt
      obtain ⟨go, yl⟩ := dlv.go F g H (xc.stay x1.wf) i _ hget
      rw [List.drop_eq_getElem_cons hlt] at pc
      obtain ⟨o, g3, eo⟩ : ∃ o g3, compOne tg tt el (wipeE env vs) ds[i] g = .ok o g3 := by
        rcases compOne_res (tg := tg) (tt := tt) (el := el) (env := wipeE env vs) (d := ds[i]) (g0 := g) with h | h
        · exact h
        · exact (PR.nstuck (k := fun o => do
            let r ← compGo (compOne tg tt el (wipeE env vs)) (ds.drop (i + 1))
            pure (match o with
              | some y => y :: r
              | none => r)) h pc).elim
      have pc2 := PR.at_ (k := fun o => do
            let r ← compGo (compOne tg tt el (wipeE env vs)) (ds.drop (i + 1))
            pure (match o with
              | some y => y :: r
              | none => r)) eo pc
      obtain ⟨env', b, gb, e1, e2, e3⟩ := compOne_some eo
      refine .inr ⟨go, fun H' => LcI W E Q H0 F1 g1 H1 (wipeE env vs) (L2.wipe σ vs) D0 (compOne tg tt el (wipeE env vs)) (ds.drop (i + 1)) (i + 1) H', fun H' l => ⟨ds.length - (i + 1), by omega, rfl, hlt, l⟩, fun x Hy hy => ?_⟩
      obtain ⟨Fy, xy, ry⟩ := yl x Hy hy
      refine ⟨Fy, g, wipeE env vs, ds[i], env', sc.ext xy, ry, e1, fun σ2 s2 o2 _ => ⟨only_wipe hsl o2, Fy, g, env', s2, PR.eqs e2.symm ?_⟩⟩
      intro Fb Hb xb
      have hDy := xy.kp _ _ hd nm (fun _ z => by cases z)
      have nmy := xy.nm hd nm
      have nfy := xy.nf hd nf
      have hDb := xb.kp _ _ hDy nmy (fun _ z => by cases z)
      have nmb := xb.nm hDy nmy
      have nfb := xb.nf hDy nfy
      have xcb := (xc.trans xy).trans xb
      have scb := (sc.ext xy).ext xb
      have rdb := (rd.ext xy xc.wf).ext xb xy.wf
      rcases e3 with ⟨rfl, y, rfl, e4⟩ | ⟨rfl, rfl, rfl⟩
      · show if _ then _ else _
        rw [if_pos rfl]
        refine ⟨Fb, gb, env', s2.ext xb, PR.eqs e4.symm ?_⟩
        intro Fe He xe v rv
        have hDe := xe.kp _ _ hDb nmb (fun _ z => by cases z)
        have nme := xe.nm hDb nmb
        have nfe := xe.nf hDb nfb
        have ln : us.length = done.length := rd.length
        refine ⟨us, hDe, by omega, ?_⟩
        obtain ⟨sw, rw'⟩ := lc_write (ws := us ++ [v]) (done := done) (d := y) (v := v) (scb.ext xe) hDe nfe nme nc
        have xce := xcb.trans xe
        have rde := rdb.ext xe xb.wf
        have rL : ∀ {us : List V} {es : List D}, RepL W Fe He us es → RepL W Fe (upd He D0 (.lst (us ++ [v]))) us es → True := fun _ _ => trivial
        have repL : ∀ {ws : List V} {es : List D}, RepL W Fe He ws es → RepL W Fe (upd He D0 (.lst (us ++ [v]))) ws es := by
          intro ws es r
          induction ws generalizing es with
          | nil => cases r; exact .nil
          | cons u ws ih => cases r with
            | cons a b => exact .cons (rw' a) (ih b)
        refine ⟨Fe, g3, done ++ [y], us ++ [v], sw, ⟨fun b o e n t => ?_, xce.fs, xce.fn, xce.mn, fun b o e => ?_, sw.wf⟩, upd_same, (repL rde).snoc (rw' rv), nfe, nme, by rw [List.length_append]; simp; omega, ?_⟩
        · have hb : b ≠ D0 := fun q => by rw [q, hD0] at e; cases e
          rw [upd_ne hb]
          exact xce.kp b o e n t
        · have hb : b ≠ D0 := fun q => by rw [q, hD0] at e; cases e
          rw [upd_ne hb]
          exact xce.th b o e
        · exact PR.bnd (P := PL W H0 Q done) (m := compGo (compOne tg tt el (wipeE env vs)) (ds.drop (i + 1))) (k := fun r => pure (y :: r)) pc2 fun r F' g' H' x q b ws a1 a2 a3 a4 a5 a6 => q F' H' (Ext.refl x.wf) b ws a1 a2 a3 a4 (by rw [List.append_assoc] at a5; exact a5) (by rw [List.append_assoc] at a6; exact a6)
      · show if _ then _ else _
        rw [if_neg Bool.false_ne_true]
        exact ⟨Fb, _, done, us, scb, xcb, hDb, rdb, nfb, nmb, Nat.le_succ_of_le hl, PR.bnd (P := PL W H0 Q done) (m := compGo (compOne tg tt el (wipeE env vs)) (ds.drop (i + 1))) (k := fun r => pure r) pc2 fun r F' g' H' x q => q F' H' (Ext.refl x.wf)⟩
    · have e : i = ds.length := by omega
      subst e
      rw [List.drop_length] at pc
      refine .inl ⟨dlv.stop F g H (xc.stay x1.wf), ?_⟩
      have n0 : H0 D0 = none := by
        cases q : H0 D0 with
        | none => rfl
        | some o =>
          obtain ⟨o', z⟩ := x1.th D0 o q
          rw [hD0] at z; cases z
      exact pc F H xc D0 us n0 hd nf nm (by rw [List.append_nil]; exact rd) (by rw [List.append_nil]; exact Nat.le_trans hl hz)
def lcM (ft : D → Ev → Option Ev) (tt : Ev → Mo Bool) (el : Ev → Mo D) (vs : List Nat) (m : Mo (List D)) (env : Ev) : Mo (List D) := do
  let ds ← m
  compGo (compOne ft tt el (wipeE env vs)) ds
theorem de_lc {elt tg iter : Expr} {ifs : List Expr} {scope : Scope} {own : List (Str × Nat)} {pos : Pos} {fi : Ev → Mo (List D)} {sl : List Nat} {ft : D → Ev → Option Ev} {tt : Ev → Mo Bool} {el : Ev → Mo D} (hc : X.calm = true) (hN : X.N.Nodup) (hi : PI X tg iter (tI W E fi)) (ok : BlkOk X.N X.env.scope scope own)
    (hg : ∀ (s : Shared) (H : Hp) (C : Addr) (cl : List (Str × Addr)) (fp : List Addr), PG (X.blk s H scope (compEnvC scope cl C X.env) fp) tg (tG W sl ft)) (ht : ∀ (s : Shared) (H : Hp) (C : Addr) (cl : List (Str × Addr)) (fp : List Addr), PTs (X.blk s H scope (compEnvC scope cl C X.env) fp) ifs (tT W XN tt))
    (he : ∀ (s : Shared) (H : Hp) (C : Addr) (cl : List (Str × Addr)) (fp : List Addr), PE (X.blk s H scope (compEnvC scope cl C X.env) fp) elt (tE W XN el)) (hs : ∀ x, foldedSetIterable iter X.env x = pure x) (hsl : ∀ j, j ∈ sl → j ∈ own.map (·.2)) :
    PE X (.ListComp elt [⟨tg, iter, ifs, 0⟩] scope pos) (tE W E fun env => do let ys ← lcM ft tt el (own.map (·.2)) (fi env) env; pure (.lst ys)) :=
  (pe_lc hc hN hi ok hg ht he hs).imp fun σ H Q p => tLc_impL hsl σ H Q (tL_of (f := fun env => lcM ft tt el (own.map (·.2)) (fi env) env) σ H Q p)
theorem dl_lc {elt tg iter : Expr} {ifs : List Expr} {scope : Scope} {own : List (Str × Nat)} {pos : Pos} {fi : Ev → Mo (List D)} {sl : List Nat} {ft : D → Ev → Option Ev} {tt : Ev → Mo Bool} {el : Ev → Mo D} (hc : X.calm = true) (hN : X.N.Nodup) (hi : PI X tg iter (tI W E fi)) (ok : BlkOk X.N X.env.scope scope own)
    (hg : ∀ (s : Shared) (H : Hp) (C : Addr) (cl : List (Str × Addr)) (fp : List Addr), PG (X.blk s H scope (compEnvC scope cl C X.env) fp) tg (tG W sl ft)) (ht : ∀ (s : Shared) (H : Hp) (C : Addr) (cl : List (Str × Addr)) (fp : List Addr), PTs (X.blk s H scope (compEnvC scope cl C X.env) fp) ifs (tT W XN tt))
    (he : ∀ (s : Shared) (H : Hp) (C : Addr) (cl : List (Str × Addr)) (fp : List Addr), PE (X.blk s H scope (compEnvC scope cl C X.env) fp) elt (tE W XN el)) (hs : ∀ x, foldedSetIterable iter X.env x = pure x) (hsl : ∀ j, j ∈ sl → j ∈ own.map (·.2)) :
    PE X (.ListComp elt [⟨tg, iter, ifs, 0⟩] scope pos) (tL W E fun env => lcM ft tt el (own.map (·.2)) (fi env) env) :=
  (pe_lc hc hN hi ok hg ht he hs).imp fun σ H Q p => tLc_impL hsl σ H Q p
/-- y = [..] on one line, y a local -/
theorem ps_lcS {i : Nat} {y : Str} {py : Pos} {elt tg iter : Expr} {ifs : List Expr} {scope : Scope} {own : List (Str × Nat)} {pos spos : Pos} {fi : Ev → Mo (List D)} {sl : List Nat} {ft : D → Ev → Option Ev} {tt : Ev → Mo Bool} {el : Ev → Mo D} (hc : X.calm = true) (hN : X.N.Nodup) (hy : X.N[i]? = some y) (hyl : X.env.scope.names.lookup y = some .local)
    (hsw : swapsWith (.ListComp elt [⟨tg, iter, ifs, 0⟩] scope pos) (some (.Name y py)) spos.line X.env = pure true) (hi : PI X tg iter (tI W E fi)) (ok : BlkOk X.N X.env.scope scope own)
    (hg : ∀ (s : Shared) (H : Hp) (C : Addr) (cl : List (Str × Addr)) (fp : List Addr), PG (X.blk s H scope (compEnvC scope cl C X.env) fp) tg (tG W sl ft)) (ht : ∀ (s : Shared) (H : Hp) (C : Addr) (cl : List (Str × Addr)) (fp : List Addr), PTs (X.blk s H scope (compEnvC scope cl C X.env) fp) ifs (tT W XN tt))
    (he : ∀ (s : Shared) (H : Hp) (C : Addr) (cl : List (Str × Addr)) (fp : List Addr), PE (X.blk s H scope (compEnvC scope cl C X.env) fp) elt (tE W XN el)) (hs : ∀ x, foldedSetIterable iter X.env x = pure x) (hsl : ∀ j, j ∈ sl → j ∈ own.map (·.2)) :
    PS X (.Assign [.Name y py] (.ListComp elt [⟨tg, iter, ifs, 0⟩] scope pos) spos) (tAsg (tL W E fun env => lcM ft tt el (own.map (·.2)) (fi env) env) (gName i)) :=
  (ps_setLc hc hN hy hyl hsw hi ok hg ht he hs).imp fun D' σ H p => tLc_impL hsl σ H _ p
end
end TL
end
end

-- text TlL
section
set_option maxHeartbeats 4000000
set_option autoImplicit false
noncomputable section
namespace TL
open PySem PySem.Spec L2
open PyProof.Rows hiding St
/-! ### statements -/
inductive Fl where
  | nx | ret (d : D) | bk | ct
/-- where a def was entered, and states whose frozen things are to stay -/
structure En where
  F : Fz
  g : G
  H : Hp
  wt : List (Fz × Hp)
structure SS (W : Wd) (e : En) (env : Ev) (σ : St) (F : Fz) (g : G) (H : Hp) : Prop where
  s : S W env σ F g H
  x : Ext W e.F e.g e.H F g H
  cn : ∀ (i : Nat) (xs : List D) (a : Addr), env[i]? = some (.cel xs) → σ[i]? = some (some (.ref a)) → e.H a = none
  st : ∀ q, q ∈ e.wt → Stay W q.1 q.2 F g H
def PSt (W : Wd) (e : En) (D' : Ends) : Fl × Ev → Fz → G → Hp → Prop := fun r F' g' H' => match r.1 with
  | .nx => ∀ σ', SS W e r.2 σ' F' g' H' → D'.nx σ' H'
  | .ret d => ∀ v, Rep W F' H' v d → D'.rt v H'
  | .bk => ∀ σ', SS W e r.2 σ' F' g' H' → D'.bk σ' H'
  | .ct => ∀ σ', SS W e r.2 σ' F' g' H' → D'.ct σ' H'
def tS (W : Wd) (E : XK) (f : Ev → Mo (Fl × Ev)) : TS := fun D' σ H => ∃ e F g env, SS W e env σ F g H ∧ PR W E (PSt W e D') e.F e.g e.H (f env g)
section
variable {W : Wd} {X : Cx} {E : XK} {e : En} {F F1 F2 : Fz} {g g1 g2 : G} {H H1 H2 : Hp} {env : Ev} {σ : St}
theorem SS.ext (s : SS W e env σ F g H) (x : Ext W F g H F1 g1 H1) : SS W e env σ F1 g1 H1 := ⟨s.s.ext x, s.x.trans x, s.cn, fun q hq => (s.st q hq).trans (g0 := g) (x.stay s.s.wf)⟩
theorem SS.set {i : Nat} {v : V} {d : D} (s : SS W e env σ F g H) (r : Rep W F H v d) : SS W e (env.set i (.dat d)) (σ.set i (some v)) F g H :=
  ⟨s.s.set r, s.x, fun j xs a h1 h2 => by
    obtain ⟨h3, h4⟩ := kc_set (o := some v) (σ := σ) j xs h1
    exact s.cn j xs a h3 (h4 ▸ h2), s.st⟩
theorem SS.kc {env' : Ev} {σ' : St} (s : SS W e env σ F g H) (s' : S W env' σ' F g H) (k : Kc env env' σ σ') : SS W e env' σ' F g H :=
  ⟨s', s.x, fun j xs a h1 h2 => by
    obtain ⟨h3, h4⟩ := k j xs h1
    exact s.cn j xs a h3 (h4 ▸ h2), s.st⟩
/-- an expression's part of a statement -/
theorem ss_ev {α β : Type} {m : Mo α} {k : α → Mo β} {P : β → Fz → G → Hp → Prop} {P' : α → Fz → G → Hp → Prop} (ss : SS W e env σ F g H) (p : PR W E P e.F e.g e.H ((m >>= k) g))
    (h : ∀ d F1 g1 H1, Ext W F g H F1 g1 H1 → SS W e env σ F1 g1 H1 → PR W E P e.F e.g e.H (k d g1) → P' d F1 g1 H1) : PR W E P' F g H (m g) := by
  cases q : m g with
  | ok a g' =>
    rw [bind_ok q] at p
    exact fun F1 H1 x => h a F1 g' H1 x (ss.ext x) p
  | exc c g' =>
    rw [bind_exc q] at p
    exact fun F1 H1 x => p F1 H1 (ss.x.trans x)
  | stuck =>
    rw [bind_stuck q] at p
    exact p
theorem ss_of {α : Type} {o : Option α} {β : Type} {k : α → Mo β} {P : β → Fz → G → Hp → Prop} (p : PR W E P e.F e.g e.H ((Mo.of o >>= k) g)) : ∃ a, o = some a ∧ PR W E P e.F e.g e.H (k a g) := by
  cases o with
  | none => exact (PR.nstuck (m := Mo.of none) rfl p).elim
  | some a => exact ⟨a, rfl, PR.at_ (m := Mo.of (some a)) rfl p⟩
theorem pst_nx {D' : Ends} {env' : Ev} {σ' : St} (s : SS W e env' σ' F g H) (p : PR W E (PSt W e D') e.F e.g e.H ((pure (Fl.nx, env') : Mo (Fl × Ev)) g)) : D'.nx σ' H := p F H s.x σ' s

/-! blocks -/
def seqM (a b : Ev → Mo (Fl × Ev)) (env : Ev) : Mo (Fl × Ev) := do
  let r ← a env
  match r with
  | (.nx, env') => b env'
  | r => pure r
theorem ds_nil : PSs X [] (tS W E fun env => pure (.nx, env)) := pss_nil.imp fun D' σ H ⟨e, F, g, env, s, p⟩ => pst_nx s p
theorem ds_one {st : Stmt} {f : Ev → Mo (Fl × Ev)} (h : PS X st (tS W E f)) : PSs X [st] (tS W E f) := pss_one h
theorem ds_cons {st : Stmt} {rest : List Stmt} {f h : Ev → Mo (Fl × Ev)} (h1 : PS X st (tS W E f)) (h2 : PSs X rest (tS W E h)) : PSs X (st :: rest) (tS W E (seqM f h)) :=
  (pss_cons h1 h2).imp fun D' σ H ⟨e, F, g, env, s, p⟩ => ⟨e, F, g, env, s, by
    unfold seqM at p
    cases q : f env g with
    | ok r g1 =>
      have p1 := PR.at_ q p
      obtain ⟨fl, env1⟩ := r
      cases fl with
      | nx => exact fun F' H' x σ' s' => ⟨e, F', g1, env1, s', p1⟩
      | ret d => exact p1
      | bk => exact p1
      | ct => exact p1
    | exc c g1 =>
      rw [bind_exc q] at p
      exact p
    | stuck =>
      rw [bind_stuck q] at p
      exact p⟩
theorem ds_pass {pos} : PS X (.Pass pos) (tS W E fun env => pure (.nx, env)) := ps_pass.imp fun D' σ H ⟨e, F, g, env, s, p⟩ => pst_nx s p
theorem ds_break {pos} : PS X (.Break pos) (tS W E fun env => pure (.bk, env)) := ps_break.imp fun D' σ H ⟨e, F, g, env, s, p⟩ => p F H s.x σ s
theorem ds_continue {pos} : PS X (.Continue pos) (tS W E fun env => pure (.ct, env)) := ps_continue.imp fun D' σ H ⟨e, F, g, env, s, p⟩ => p F H s.x σ s
theorem ds_expr {ex : Expr} {pos : Pos} {f : Ev → Mo D} (he : PE X ex (tE W E f)) (hs : swapsWith ex none pos.line X.env = pure false) : PS X (.Expr ex pos) (tS W E fun env => do let _ ← f env; pure (.nx, env)) :=
  (ps_expr he hs).imp fun D' σ H ⟨e, F, g, env, s, p⟩ => ⟨F, g, env, s.s, ss_ev s p fun d F1 g1 H1 x1 s1 p1 v rv => pst_nx s1 p1⟩
/-! a list that the def goes on to change is a cell while it does; all may be frozen -/
def frzE (env : Ev) : Ev := env.map fun
  | .cel xs => .dat (.lst xs)
  | s => s
theorem frz_get {env : Ev} {i : Nat} {s : Sl} (h : (frzE env)[i]? = some s) : ∃ s', env[i]? = some s' ∧ ((∃ xs, s' = .cel xs ∧ s = .dat (.lst xs)) ∨ (s = s' ∧ ∀ xs, s' ≠ .cel xs)) := by
  unfold frzE at h
  rw [List.getElem?_map] at h
  obtain ⟨s', h1, h2⟩ := Option.map_eq_some_iff.mp h
  refine ⟨s', h1, ?_⟩
  cases s' with
  | un => exact .inr ⟨h2.symm, fun _ z => by cases z⟩
  | dat d => exact .inr ⟨h2.symm, fun _ z => by cases z⟩
  | cel xs => exact .inl ⟨xs, rfl, h2.symm⟩
theorem RepL.more {vs : List V} {ds : List D} (r : RepL W F H vs ds) (h : ∀ b, F b → F1 b) : RepL W F1 H vs ds := r.less fun b _ f _ => h b f
/-- the cells' addresses -/
def cellsAt (env : Ev) (σ : St) : Fz := fun a => ∃ (i : Nat) (xs : List D), env[i]? = some (.cel xs) ∧ σ[i]? = some (some (.ref a))
theorem S.frz (s : S W env σ F g H) : S W (frzE env) σ (fun b => F b ∨ cellsAt env σ b) g H where
  wf := ⟨fun b h => by
      rcases h with h | ⟨i, xs, h1, h2⟩
      · exact s.wf.al b h
      · obtain ⟨o, e1, a, vs, e2, e3, _⟩ := s.at_ i _ h1
        rw [h2] at e1
        cases e1
        cases e2
        exact ⟨_, e3⟩, fun b h => by
      rcases h with h | ⟨i, xs, h1, h2⟩
      · exact s.wf.nm b h
      · obtain ⟨o, e1, a, vs, e2, e3, _, _, _, nm⟩ := s.at_ i _ h1
        rw [h2] at e1
        cases e1
        cases e2
        exact nm, s.wf.ok, s.wf.tb⟩
  len := by unfold frzE; rw [List.length_map]; exact s.len
  at_ := fun i sl h => by
    obtain ⟨s', h1, h2⟩ := frz_get h
    obtain ⟨o, e1, k⟩ := s.at_ i _ h1
    refine ⟨o, e1, ?_⟩
    rcases h2 with ⟨xs, rfl, rfl⟩ | ⟨rfl, nc⟩
    · obtain ⟨a, vs, e2, e3, r, z, _, _⟩ := k
      exact ⟨.ref a, e2, .lst (.inr ⟨i, xs, h1, by rw [e1, e2]⟩) e3 z (r.more fun _ f => .inl f)⟩
    · cases sl with
      | un => trivial
      | dat d =>
        obtain ⟨v, e2, r⟩ := k
        exact ⟨v, e2, r.less fun b o f _ => .inl f⟩
      | cel xs => exact absurd rfl (nc xs)
  ap := fun i j xs ys a h _ _ _ => by
    obtain ⟨s', _, h2⟩ := frz_get h
    rcases h2 with ⟨_, _, z⟩ | ⟨rfl, nc⟩
    · cases z
    · exact absurd rfl (nc xs)
theorem SS.frz (s : SS W e env σ F g H) : SS W e (frzE env) σ (fun b => F b ∨ cellsAt env σ b) g H where
  s := s.s.frz
  x := ⟨s.x.kp, fun b f => .inl (s.x.fs b f), fun b f => by
    rcases f with f | ⟨i, xs, h1, h2⟩
    · exact s.x.fn b f
    · exact .inr (s.cn i xs b h1 h2), s.x.mn, s.x.th, s.s.frz.wf⟩
  cn := fun i xs a h _ => by
    obtain ⟨s', _, h2⟩ := frz_get h
    rcases h2 with ⟨_, _, z⟩ | ⟨rfl, nc⟩
    · cases z
    · exact absurd rfl (nc xs)
  st := fun q hq => ⟨(s.st q hq).fz, (s.st q hq).tp, (s.st q hq).fr, fun b f => .inl ((s.st q hq).fs b f), s.s.frz.wf⟩
/-- back: what was a cell is one again -/
theorem unfrz (s : S W env σ F g H) (x : Ext W (fun b => F b ∨ cellsAt env σ b) g H F1 g1 H1) : Ext W F g H (fun b => F1 b ∧ ¬ cellsAt env σ b) g1 H1 where
  kp := x.kp
  fs := fun b f => ⟨x.fs b (.inl f), fun ⟨i, xs, h1, h2⟩ => by
    obtain ⟨o, e1, a, vs, e2, e3, _, _, nf, _⟩ := s.at_ i _ h1
    rw [h2] at e1
    cases e1
    cases e2
    exact nf f⟩
  fn := fun b f => by
    rcases x.fn b f.1 with (h | h) | h
    · exact .inl h
    · exact absurd h f.2
    · exact .inr h
  mn := x.mn
  th := x.th
  wf := ⟨fun b f => x.wf.al b f.1, fun b f => x.wf.nm b f.1, x.wf.ok, x.wf.tb⟩
/-- an expression that looks at the cells as lists; what it gives holds no list -/
def borrow (m : Mo D) : Mo D := do
  let d ← m
  if nl d = true then pure d else Mo.fail
theorem tE_borrow {f : Ev → Mo D} : ∀ σ H Q, tE W E (fun env => borrow (f (frzE env))) σ H Q → tE W E f σ H Q := fun σ H Q ⟨F, g, env, s, p⟩ =>
  ⟨_, g, frzE env, s.frz, by
    have p : PR W E (PQ W Q) F g H ((f (frzE env) >>= fun d => if nl d = true then pure d else Mo.fail) g) := p
    cases q : f (frzE env) g with
    | ok d g1 =>
      have p1 := PR.at_ q p
      obtain ⟨c, p1⟩ := pr_if p1
      exact fun F' H' x v rv => p1 _ _ (unfrz s x) v (rv.nl c)
    | exc c g1 =>
      rw [bind_exc q] at p
      exact fun F' H' x => p _ _ (unfrz s x)
    | stuck =>
      rw [bind_stuck q] at p
      exact p⟩
theorem tT_borrow {f : Ev → Mo Bool} : ∀ σ H Q, tT W E (fun env => f (frzE env)) σ H Q → tT W E f σ H Q := fun σ H Q ⟨F, g, env, s, p⟩ =>
  ⟨_, g, frzE env, s.frz, by
    cases q : f (frzE env) g with
    | ok d g1 =>
      have p : PR W E (fun b _ _ H' => Q b H') F g H (f (frzE env) g) := p
      rw [q] at p
      exact fun F' H' x => p _ _ (unfrz s x)
    | exc c g1 =>
      have p : PR W E (fun b _ _ H' => Q b H') F g H (f (frzE env) g) := p
      rw [q] at p
      exact fun F' H' x => p _ _ (unfrz s x)
    | stuck =>
      have p : PR W E (fun b _ _ H' => Q b H') F g H (f (frzE env) g) := p
      rw [q] at p
      exact p⟩
def bwE (c : Ev → Bool) (f : Ev → Mo D) (env : Ev) : Mo D := if c env = true then borrow (f (frzE env)) else f env
def bwT (c : Ev → Bool) (f : Ev → Mo Bool) (env : Ev) : Mo Bool := if c env = true then f (frzE env) else f env
theorem de_bw {ex : Expr} {c : Ev → Bool} {f : Ev → Mo D} (h : PE X ex (tE W E f)) : PE X ex (tE W E (bwE c f)) := h.imp fun σ H Q ⟨F, g, env, s, p⟩ => by
  unfold bwE at p
  by_cases q : c env = true
  · rw [if_pos q] at p; exact tE_borrow σ H Q ⟨F, g, env, s, p⟩
  · rw [if_neg q] at p; exact ⟨F, g, env, s, p⟩
theorem dt_bw {ex : Expr} {c : Ev → Bool} {f : Ev → Mo Bool} (h : PT X ex (tT W E f)) : PT X ex (tT W E (bwT c f)) := h.imp fun σ H Q ⟨F, g, env, s, p⟩ => by
  unfold bwT at p
  by_cases q : c env = true
  · rw [if_pos q] at p; exact tT_borrow σ H Q ⟨F, g, env, s, p⟩
  · rw [if_neg q] at p; exact ⟨F, g, env, s, p⟩
/-! return, raise, if -/
theorem ds_ret {ex : Expr} {pos : Pos} {f : Ev → Mo D} (he : PE X ex (tE W E f)) : PS X (.Return (some ex) pos) (tS W E fun env => do let d ← f (frzE env); pure (.ret d, env)) :=
  (ps_ret he).imp fun D' σ H ⟨e, F, g, env, s, p⟩ => ⟨_, g, frzE env, s.s.frz, ss_ev s.frz p fun d F1 g1 H1 x1 s1 p1 v rv => p1 F1 H1 s1.x v rv⟩
theorem ds_retN {pos : Pos} : PS X (.Return none pos) (tS W E fun env => pure (.ret .non, env)) := ps_retN.imp fun D' σ H ⟨e, F, g, env, s, p⟩ => p F H s.x _ .non
theorem ds_if {c : Expr} {a b : List Stmt} {pos : Pos} {fc : Ev → Mo Bool} {fa fb : Ev → Mo (Fl × Ev)} (hc : PT X c (tT W E fc)) (ha : PSs X a (tS W E fa)) (hb : PSs X b (tS W E fb)) : PS X (.If c a b pos) (tS W E fun env => do let k ← fc env; if k = true then fa env else fb env) :=
  (ps_if hc ha hb).imp fun D' σ H ⟨e, F, g, env, s, p⟩ => ⟨F, g, env, s.s, ss_ev s p fun k F1 g1 H1 x1 s1 p1 => by
    cases k with
    | true => rw [if_pos rfl] at p1 ⊢; exact ⟨e, F1, g1, env, s1, p1⟩
    | false => rw [if_neg Bool.false_ne_true] at p1 ⊢; exact ⟨e, F1, g1, env, s1, p1⟩⟩
theorem ds_raise {ex : Expr} {pos : Pos} {c : Str} {C : Addr} (hc : X.calm = true) (tk : Takes X (fun cls d _ H => E cls d H)) (hm : W.mg c = some (.ref C)) (he : PMk X ex (fun _ H Q => Q (.ref C) none H)) : PS X (.Raise (some ex) none pos) (tS W E fun _ => Mo.raise c) :=
  (ps_raise hc tk he).imp fun D' σ H ⟨e, F, g, env, s, p⟩ => p F H s.x C hm
/-! assignments -/
theorem ds_set {i : Nat} {x : Str} {ex : Expr} {pos pos' : Pos} {f : Ev → Mo D} (hN : X.N.Nodup) (hi : X.N[i]? = some x) (hx : Loc X.env.scope x) (he : PE X ex (tE W E f)) (hs : swapsWith ex (some (.Name x pos')) pos.line X.env = pure false) (hf : X.fn x = true ∨ X.env.scope.names.lookup x = some .local) :
    PS X (.Assign [.Name x pos'] ex pos) (tS W E fun env => do let d ← f env; pure (.nx, env.set i (.dat d))) :=
  (ps_set hN hi hx he hs hf).imp fun D' σ H ⟨e, F, g, env, s, p⟩ => ⟨F, g, env, s.s, ss_ev s p fun d F1 g1 H1 x1 s1 p1 v rv => pst_nx (s1.set rv) p1⟩
theorem ds_asg {tg ex : Expr} {pos : Pos} {f : Ev → Mo D} {sl : List Nat} {ft : D → Ev → Option Ev} (he : PE X ex (tE W E f)) (hg : PG X tg (tG W sl ft)) (hs : swapsWithSole [tg] ex pos.line X.env = pure false) (hw : swappedStores [tg] ex X.env = pure none) (h1 : (assignEach [tg] X.env).map (·.2) = [assign tg X.env]) :
    PS X (.Assign [tg] ex pos) (tS W E fun env => do let d ← f env; let env' ← Mo.of (ft d env); pure (.nx, env')) :=
  (ps_asg he hg hs hw h1).imp fun D' σ H ⟨e, F, g, env, s, p⟩ => ⟨F, g, env, s.s, ss_ev s p fun d F1 g1 H1 x1 s1 p1 v rv => by
    obtain ⟨env', e1, p2⟩ := ss_of p1
    exact ⟨F1, g1, env, d, env', s1.s, rv, e1, fun σ' s' _ k => pst_nx (s1.kc s' k) p2⟩⟩
def two (ds : List D) (f : D → D → Ev) : Mo (Fl × Ev) := match ds with
  | [a, b] => pure (.nx, f a b)
  | _ => Mo.fail
theorem ds_par {i j : Nat} {x y : Str} {a b : Expr} {px py pt pos : Pos} {kt k2 pt2} {fs : Ev → Mo (List D)} (hc : X.calm = true) (hN : X.N.Nodup) (hi : X.N[i]? = some x) (hj : X.N[j]? = some y) (hij : i ≠ j)
    (hx : X.env.scope.names.lookup x = some .local) (hy : X.env.scope.names.lookup y = some .local) (ha : PA X [a, b] (tA W E fs)) (hw : swappedStores [.Tuple [.Name x px, .Name y py] kt pt] (.Tuple [a, b] k2 pt2) X.env = pure (some [x, y])) :
    PS X (.Assign [.Tuple [.Name x px, .Name y py] kt pt] (.Tuple [a, b] k2 pt2) pos) (tS W E fun env => do let ds ← fs env; two ds fun a b => (env.set i (.dat a)).set j (.dat b)) :=
  (ps_par hc hN hi hj hij hx hy ha hw).imp fun D' σ H ⟨e, F, g, env, s, p⟩ => ⟨F, g, env, s.s, ss_ev s p fun ds F1 g1 H1 x1 s1 p1 vs rs => by
    match ds, rs with
    | [a, b], .cons ra (.cons rb .nil) => exact ⟨_, _, rfl, pst_nx ((s1.set ra).set rb) p1⟩
    | [], .nil => exact p1.elim
    | [_], .cons _ .nil => exact p1.elim
    | _ :: _ :: _ :: _, .cons _ (.cons _ (.cons _ _)) => exact p1.elim⟩
end
end TL
end
end

-- text TlM
section
set_option maxHeartbeats 4000000
set_option autoImplicit false
noncomputable section
namespace TL
open PySem PySem.Spec L2
open PyProof.Rows hiding St
section
variable {W : Wd} {X : Cx} {E : XK} {e : En} {F F1 F2 : Fz} {g g1 g2 : G} {H H1 H2 : Hp} {env : Ev} {σ : St}
/-! ### lists that are made -/
theorem dl_lst {es : List Expr} {fs : Ev → Mo (List D)} {pos} (h : PA X es (tA W E fs)) : PE X (.List es pos) (tL W E fun env => do let as ← fs env; if as.length ≤ lim then pure as else Mo.fail) :=
  (pe_lst h).imp fun σ H Q ⟨F, g, env, s, p⟩ => ⟨F, g, env, s, p.bnd fun as F1 g1 H1 x1 p1 vs rs => by
    obtain ⟨z, p1⟩ := pr_if p1
    refine ⟨by rw [rs.length]; exact lim_le z, fun q hq => ?_⟩
    have xn := Ext.newT (o := .lst vs) x1.wf hq
    have n0 : H q = none := by
      cases e0 : H q with
      | none => rfl
      | some o =>
        obtain ⟨o', z⟩ := x1.th q o e0
        rw [hq] at z; cases z
    exact p1 F1 _ xn q vs n0 upd_same (fun f => by
      obtain ⟨o, z⟩ := x1.wf.al q f
      rw [hq] at z; cases z) (x1.wf.ok.nnew hq) (rs.ext xn x1.wf) (lim_le z)⟩
def listL (ds : List D) : Mo (List D) := match oneO ds with
  | some (.lst xs) => pure xs
  | some (.tup xs) => pure xs
  | _ => Mo.fail
theorem dl_list {x : Str} {p pos : Pos} {ex : Expr} {es : List Expr} {fs : Ev → Mo (List D)} (hK : X.K = W.K) (hc : X.calm = true) (hg : Gl X x) (hm : X.mg x = none) (hv : bootBuiltins x = some (.type "list"))
    (ha : PA X (ex :: es) (tA W E fs)) (hn : x ≠ "__name__") (hdb : (x == ("__debug__" : Str)) = false) (he : starEach (ex :: es) X.env = (false, eval ex X.env) :: starEach es X.env) (hpl : (backTo pos (starEach es X.env)).any (·.1) = false) :
    PE X (.Call (.Name x p) (ex :: es) [] pos) (tL W E fun env => do let as ← fs env; listL as) :=
  (pe_callTy (call_listX hc) hg hm hv ha hn hdb he hpl).imp fun σ H Q ⟨F, g, env, s, p⟩ => ⟨F, g, env, s, p.bnd fun as F1 g1 H1 x1 p1 vs rs => by
    rw [hK]
    unfold listL at p1
    have fin : ∀ (ys : List V) (xs : List D), RepL W F1 H1 ys xs → xs.length ≤ sizeLine → PR W E (PL W H Q []) F1 g1 H1 ((pure xs : Mo (List D)) g1) → ∀ l, H1 l = none → Q (.ref l) (upd H1 l (.lst ys)) := fun ys xs r z p1 q hq => by
      have xn := Ext.newT (o := .lst ys) x1.wf hq
      have n0 : H q = none := by
        cases e0 : H q with
        | none => rfl
        | some o =>
          obtain ⟨o', z⟩ := x1.th q o e0
          rw [hq] at z; cases z
      exact p1 F1 _ xn q ys n0 upd_same (fun f => by
        obtain ⟨o, z⟩ := x1.wf.al q f
        rw [hq] at z; cases z) (x1.wf.ok.nnew hq) (r.ext xn x1.wf) z
    cases e0 : oneO as with
    | none => rw [e0] at p1; exact p1.elim
    | some d =>
      obtain ⟨v, rfl, r⟩ := oneO_rep e0 rs
      rw [e0] at p1
      cases r with
      | lst f h z t => exact .inl ⟨_, _, rfl, .inl (.inl (.inl h)), fin _ _ t z p1⟩
      | tup h z t => exact .inl ⟨_, _, rfl, .inr h, fin _ _ t z p1⟩
      | _ => exact p1.elim⟩
/-! ### a cell begins -/
theorem S.cell {i : Nat} {p : Addr} {vs : List V} {ds : List D} (s : S W env σ F g H) (hp : H p = some (.lst vs)) (nf : ¬ F p) (nm : ¬ Mg g p) (r : RepL W F H vs ds) (z : ds.length ≤ sizeLine) (nc : ∀ (j : Nat) (xs : List D), env[j]? = some (.cel xs) → σ[j]? ≠ some (some (.ref p))) :
    S W (env.set i (.cel ds)) (σ.set i (some (.ref p))) F g H where
  wf := s.wf
  len := by rw [List.length_set, List.length_set, s.len]
  at_ := fun j sl e => by
    by_cases h : i = j
    · subst h
      by_cases hl : i < env.length
      · rw [List.getElem?_set_self hl] at e
        cases e
        exact ⟨_, List.getElem?_set_self (by rw [← s.len]; exact hl), p, vs, rfl, hp, r, z, nf, nm⟩
      · rw [List.getElem?_eq_none (by rw [List.length_set]; omega)] at e
        cases e
    · rw [List.getElem?_set_ne h] at e ⊢
      exact s.at_ j sl e
  ap := fun j k xs ys a e1 e2 e3 e4 => by
    by_cases h1 : i = j
    · by_cases h2 : i = k
      · exact h1.symm.trans h2
      · subst h1
        rw [List.getElem?_set_ne h2] at e2 e4
        by_cases hl : i < σ.length
        · rw [List.getElem?_set_self hl] at e3
          cases e3
          exact absurd e4 (nc k ys e2)
        · rw [List.getElem?_eq_none (by rw [List.length_set]; omega)] at e3; cases e3
    · rw [List.getElem?_set_ne h1] at e1 e3
      by_cases h2 : i = k
      · subst h2
        by_cases hl : i < σ.length
        · rw [List.getElem?_set_self hl] at e4
          cases e4
          exact absurd e3 (nc j xs e1)
        · rw [List.getElem?_eq_none (by rw [List.length_set]; omega)] at e4; cases e4
      · rw [List.getElem?_set_ne h2] at e2 e4
        exact s.ap j k xs ys a e1 e2 e3 e4
theorem SS.cell {i : Nat} {p : Addr} {vs : List V} {ds : List D} (s : SS W e env σ F g H) (hp : H p = some (.lst vs)) (nf : ¬ F p) (nm : ¬ Mg g p) (r : RepL W F H vs ds) (z : ds.length ≤ sizeLine) (n0 : e.H p = none) (nc : ∀ (j : Nat) (xs : List D), env[j]? = some (.cel xs) → σ[j]? ≠ some (some (.ref p))) :
    SS W e (env.set i (.cel ds)) (σ.set i (some (.ref p))) F g H :=
  ⟨s.s.cell hp nf nm r z nc, s.x, fun j xs a h1 h2 => by
    by_cases h : i = j
    · subst h
      by_cases hl : i < σ.length
      · rw [List.getElem?_set_self hl] at h2
        cases h2
        exact n0
      · rw [List.getElem?_eq_none (by rw [List.length_set]; omega)] at h2; cases h2
    · rw [List.getElem?_set_ne h] at h1 h2
      exact s.cn j xs a h1 h2, s.st⟩
theorem cells_old {p : Addr} (s : S W env σ F g H) (hn : H p = none) : ∀ (j : Nat) (xs : List D), env[j]? = some (.cel xs) → σ[j]? ≠ some (some (.ref p)) := fun j xs h1 h2 => by
  obtain ⟨o, e1, a, us, e2, e3, _⟩ := s.at_ j _ h1
  rw [h2] at e1
  cases e1
  cases e2
  rw [hn] at e3; cases e3
theorem SS.n0 (s : SS W e env σ F g H) {p : Addr} (hn : H p = none) : e.H p = none := by
  cases q : e.H p with
  | none => rfl
  | some o =>
    obtain ⟨o', z⟩ := s.x.th p o q
    rw [hn] at z; cases z
theorem ds_new {i : Nat} {x : Str} {ex : Expr} {pos pos' : Pos} {f : Ev → Mo (List D)} (hN : X.N.Nodup) (hi : X.N[i]? = some x) (hx : Loc X.env.scope x) (he : PE X ex (tL W E f)) (hs : swapsWith ex (some (.Name x pos')) pos.line X.env = pure false) (hf : X.fn x = true ∨ X.env.scope.names.lookup x = some .local) :
    PS X (.Assign [.Name x pos'] ex pos) (tS W E fun env => do let ds ← f env; pure (.nx, env.set i (.cel ds))) :=
  (ps_set hN hi hx he hs hf).imp fun D' σ H ⟨e, F, g, env, s, p⟩ => ⟨F, g, env, s.s, ss_ev s p fun ds F1 g1 H1 x1 s1 p1 q vs hn hq nf nm r z => pst_nx (s1.cell hq nf nm r z (s.n0 hn) (cells_old s.s hn)) p1⟩
theorem ds_newLc {i : Nat} {st : Stmt} {f : Ev → Mo (List D)} (h : PS X st (tAsg (tL W E f) (gName i))) : PS X st (tS W E fun env => do let ds ← f env; pure (.nx, env.set i (.cel ds))) :=
  h.imp fun D' σ H ⟨e, F, g, env, s, p⟩ => ⟨F, g, env, s.s, ss_ev s p fun ds F1 g1 H1 x1 s1 p1 q vs hn hq nf nm r z => pst_nx (s1.cell hq nf nm r z (s.n0 hn) (cells_old s.s hn)) p1⟩
theorem SS.plus (s : SS W e env σ F1 g1 H1) {q : Addr} {o : HO} (n0 : e.H q = none) (hq : H1 q = some o) (nm : ¬ Mg g1 q) (nc : ∀ (j : Nat) (xs : List D), env[j]? = some (.cel xs) → σ[j]? ≠ some (some (.ref q))) : SS W e env σ (plusF F1 q) g1 H1 where
  s := ⟨(s.x.plus n0 hq nm).wf, s.s.len, fun i sl h => by
    obtain ⟨o, e1, k⟩ := s.s.at_ i sl h
    refine ⟨o, e1, ?_⟩
    cases sl with
    | un => trivial
    | dat d =>
      obtain ⟨v, e2, r⟩ := k
      exact ⟨v, e2, r.less fun _ _ f _ => .inl f⟩
    | cel xs =>
      obtain ⟨a, us, e2, e3, r, z, nf, nm'⟩ := k
      exact ⟨a, us, e2, e3, r.less fun _ _ f _ => .inl f, z, fun f => by
        rcases f with f | rfl
        · exact nf f
        · exact nc i xs h (by rw [e1, e2]), nm'⟩, s.s.ap⟩
  x := s.x.plus n0 hq nm
  cn := s.cn
  st := fun q' hq' => ⟨(s.st q' hq').fz, (s.st q' hq').tp, (s.st q' hq').fr, fun b f => .inl ((s.st q' hq').fs b f), (s.x.plus n0 hq nm).wf⟩
/-- a new list that is kept as it is -/
theorem ds_lcD {i : Nat} {st : Stmt} {f : Ev → Mo (List D)} (h : PS X st (tAsg (tL W E f) (gName i))) : PS X st (tS W E fun env => do let ds ← f env; pure (.nx, env.set i (.dat (.lst ds)))) :=
  h.imp fun D' σ H ⟨e, F, g, env, s, p⟩ => ⟨F, g, env, s.s, ss_ev s p fun ds F1 g1 H1 x1 s1 p1 q vs hn hq nf nm r z =>
    pst_nx (e := e) ((s1.plus (s.n0 hn) hq nm (cells_old s.s hn)).set (.lst (.inr rfl) hq z (r.less fun _ _ f _ => .inl f))) p1⟩
/-! ### a cell is written -/
theorem rep_write {a : Addr} {vs : List V} {o' : HO} (hd : H a = some (.lst vs)) (nf : ¬ F a) : ∀ {u : V} {d : D}, Rep W F H u d → Rep W F (upd H a o') u d := by
  have key : ∀ b o, H b = some o → b ≠ a → upd H a o' b = some o := fun b o e h => by rw [upd_ne h]; exact e
  have ft : ∀ b, F b → b ≠ a := fun b f e => nf (e ▸ f)
  intro u d r
  refine Rep.rec (motive_1 := fun u d _ => Rep W F (upd H a o') u d) (motive_2 := fun us ds _ => RepL W F (upd H a o') us ds) .non (fun b => .bl b) (fun b => .int b) (fun b => .str b) (fun h z _ ih => .tup ?_ z ih) (fun f h z _ ih => .lst f (key _ _ h (ft _ f)) z ih)
    (fun f h => .dnil f (key _ _ h (ft _ f))) (fun h z => .scr ?_ z) (fun a => .ptr a) (fun f h m => .exc f (key _ _ h (ft _ f)) m) .nil (fun _ _ i1 i2 => .cons i1 i2) r
  · rcases h with (h | ⟨o, h⟩) | h
    · exact .inl (.inl (key _ _ h (fun q => by rw [q, hd] at h; cases h)))
    · exact .inl (.inr ⟨o, key _ _ h (fun q => by rw [q, hd] at h; cases h)⟩)
    · exact .inr h
  · rcases h with ⟨f, h | ⟨o, h⟩⟩ | h
    · exact .inl ⟨f, .inl (key _ _ h (ft _ f))⟩
    · exact .inl ⟨f, .inr ⟨o, key _ _ h (ft _ f)⟩⟩
    · exact .inr h
theorem repL_write {a : Addr} {vs : List V} {o' : HO} (hd : H a = some (.lst vs)) (nf : ¬ F a) : ∀ {us : List V} {ds : List D}, RepL W F H us ds → RepL W F (upd H a o') us ds
  | _, _, .nil => .nil
  | _, _, .cons r t => .cons (rep_write hd nf r) (repL_write hd nf t)
theorem wf_write {a : Addr} {vs : List V} {o' : HO} (w : Wf W F g H) (hd : H a = some (.lst vs)) (nf : ¬ F a) (nm : ¬ Mg g a) : Wf W F g (upd H a o') := by
  have key : ∀ b o, H b = some o → b ≠ a → upd H a o' b = some o := fun b o e h => by rw [upd_ne h]; exact e
  refine ⟨fun b f => ?_, w.nm, ?_, fun p hp => ?_⟩
  · obtain ⟨o, e⟩ := w.al b f
    exact ⟨o, key _ _ e (fun q => nf (q ▸ f))⟩
  · cases g with
    | none => trivial
    | some t =>
      obtain ⟨h1, h2, h3, h4⟩ := w.ok
      exact ⟨key _ _ h1 (fun q => nm ⟨t, rfl, .inl q.symm⟩), key _ _ h2 (fun q => nm ⟨t, rfl, .inr (.inl q.symm)⟩), key _ _ h3 (fun q => nm ⟨t, rfl, .inr (.inr q.symm)⟩), h4⟩
  · obtain ⟨ps, h1, h2, h3⟩ := w.tb p hp
    refine ⟨ps, key _ _ h1 (fun q => by rw [q, hd] at h1; cases h1), h2, fun pos cv hc => ?_⟩
    obtain ⟨c, e1, e2⟩ := h3 pos cv hc
    exact ⟨c, e1, key _ _ e2 (fun q => by rw [q, hd] at e2; unfold LamX.CodeO at e2; cases e2)⟩
theorem SS.write {i : Nat} {a : Addr} {xs ds : List D} {vs ws : List V} (s : SS W e env σ F g H) (hi : env[i]? = some (.cel xs)) (ha : σ[i]? = some (some (.ref a))) (hd : H a = some (.lst vs)) (r : RepL W F H ws ds) (z : ds.length ≤ sizeLine) :
    SS W e (env.set i (.cel ds)) σ F g (upd H a (.lst ws)) := by
  obtain ⟨o, e1, a', us, e2, e3, _, _, nf, nm⟩ := s.s.at_ i _ hi
  rw [ha] at e1
  cases e1
  cases e2
  have wf := wf_write (o' := .lst ws) s.s.wf hd nf nm
  have n0 := s.cn i xs a hi ha
  have hil : i < env.length := (List.getElem?_eq_some_iff.mp hi).1
  refine ⟨⟨wf, by rw [List.length_set]; exact s.s.len, fun j sl h => ?_, fun j k xs' ys' b h1 h2 h3 h4 => ?_⟩, ⟨fun b o h n t => ?_, s.x.fs, s.x.fn, s.x.mn, fun b o h => ?_, wf⟩, fun j xs' b h1 h2 => ?_, fun q hq => ⟨fun b o f h t => ?_, fun b xs' h => ?_, fun b o u h => ?_, (s.st q hq).fs, wf⟩⟩
  · by_cases hj : i = j
    · subst hj
      rw [List.getElem?_set_self hil] at h
      cases h
      exact ⟨_, ha, a, ws, rfl, upd_same, repL_write hd nf r, z, nf, nm⟩
    · rw [List.getElem?_set_ne hj] at h
      obtain ⟨o, f1, k⟩ := s.s.at_ j sl h
      refine ⟨o, f1, ?_⟩
      cases sl with
      | un => trivial
      | dat d =>
        obtain ⟨v, f2, rr⟩ := k
        exact ⟨v, f2, rep_write hd nf rr⟩
      | cel ys =>
        obtain ⟨b, us', f2, f3, rr, zz, nf', nm'⟩ := k
        have hb : b ≠ a := fun q => hj (s.s.ap i j xs ys a hi h ha (by rw [f1, f2, q]))
        exact ⟨b, us', f2, by rw [upd_ne hb]; exact f3, repL_write hd nf rr, zz, nf', nm'⟩
  · have cc : ∀ {j : Nat} {xs' : List D}, (env.set i (.cel ds))[j]? = some (.cel xs') → ∃ ys, env[j]? = some (.cel ys) := fun {j xs'} h => by
      by_cases hj : i = j
      · subst hj; exact ⟨xs, hi⟩
      · rw [List.getElem?_set_ne hj] at h; exact ⟨xs', h⟩
    obtain ⟨_, q1⟩ := cc h1
    obtain ⟨_, q2⟩ := cc h2
    exact s.s.ap j k _ _ b q1 q2 h3 h4
  · have hb : b ≠ a := fun q => by rw [q, n0] at h; cases h
    rw [upd_ne hb]
    exact s.x.kp b o h n t
  · have hb : b ≠ a := fun q => by rw [q, n0] at h; cases h
    rw [upd_ne hb]
    exact s.x.th b o h
  · by_cases hj : i = j
    · subst hj
      exact s.cn i xs b hi h2
    · rw [List.getElem?_set_ne hj] at h1
      exact s.cn j xs' b h1 h2
  · have hb : b ≠ a := fun q' => nf ((s.st q hq).fs a (q' ▸ f))
    rw [upd_ne hb]
    exact (s.st q hq).fz b o f h t
  · have z' := (s.st q hq).tp b xs' h
    have hb : b ≠ a := fun q' => by rw [q', hd] at z'; cases z'
    rw [upd_ne hb]
    exact z'
  · have z' := (s.st q hq).fr b o u h
    have hb : b ≠ a := fun q' => by rw [q', hd] at z'; cases z'
    rw [upd_ne hb]
    exact z'
def celO (env : Ev) (i : Nat) : Option (List D) := match env[i]? with
  | some (.cel xs) => some xs
  | _ => none
theorem celO_at (s : S W env σ F g H) {i : Nat} {xs : List D} (h : celO env i = some xs) : env[i]? = some (.cel xs) ∧ ∃ a vs, σ[i]? = some (some (.ref a)) ∧ H a = some (.lst vs) ∧ RepL W F H vs xs ∧ xs.length ≤ sizeLine ∧ ¬ F a ∧ ¬ Mg g a := by
  unfold celO at h
  cases e0 : env[i]? with
  | none => rw [e0] at h; cases h
  | some sl =>
    rw [e0] at h
    cases sl with
    | cel ys =>
      cases h
      obtain ⟨o, e1, a, vs, e2, e3, r, z, nf, nm⟩ := s.at_ i _ e0
      exact ⟨rfl, a, vs, by rw [e1, e2], e3, r, z, nf, nm⟩
    | _ => cases h
/-- x.append(e) -/
theorem ds_append {i : Nat} {x : Str} {p1 apos pos pos' : Pos} {ex : Expr} {f : Ev → Mo D} (hK : X.K = W.K) (hN : X.N[i]? = some x) (hv : Vis X.env.scope x) (hd : (x == ("__debug__" : Str)) = false) (hcd : (x == ("__classdict__" : Str)) = false) (he : PE X ex (tE W E f))
    (hs : starEach [ex] X.env = (false, eval ex X.env) :: starEach [] X.env) (hline : (apos.endLine == pos.line) = true) :
    PS X (.Expr (.Call (.Attribute (.Name x p1) "append" apos) [ex] [] pos) pos') (tS W E fun env => do
      let xs ← Mo.of (celO env i)
      let d ← f env
      if xs.length ≤ lim then pure (.nx, env.set i (.cel (xs ++ [d]))) else Mo.fail) :=
  (ps_expr (pe_bm PySem.F.plainAttrs_list PySem.F.slot_list_append PySem.F.type_list_append (show MtR X "list.append" rAppend from mt_append) (pe_var hN hv hd hcd) (pa_cons he pa_nil hs) (by rfl) (by rw [hs]; rfl) hline hs (by rfl)) (by rfl)).imp fun D' σ H ⟨e, F, g, env, s, p⟩ => by
    obtain ⟨xs, e1, p1⟩ := ss_of p
    obtain ⟨hi, a, vs, ha, hH, r, z, nf, nm⟩ := celO_at s.s e1
    refine ⟨.ref a, ha, .inl ⟨rfl, vs, .inl (.inl hH)⟩, F, g, env, s.s, ss_ev s p1 fun d F1 g1 H1 x1 s1 p2 v rv => ?_⟩
    obtain ⟨c, p2⟩ := pr_if p2
    have h1 := x1.kp _ _ hH nm (fun _ z => by cases z)
    exact ⟨a, vs, v, rfl, rfl, h1, by rw [r.length]; exact lim_lt c, pst_nx (s1.write hi ha h1 ((r.ext x1 s.s.wf).snoc rv) (by rw [List.length_append]; exact Nat.le_of_lt (Nat.lt_of_le_of_lt (Nat.add_le_add_right c 1) (by decide)))) p2⟩
end
end TL
end
end

-- text TlN
section
set_option maxHeartbeats 4000000
set_option autoImplicit false
noncomputable section
namespace TL
open PySem PySem.Spec L2
open PyProof.Rows hiding St
/-! ### for -/
def forGo (tg : D → Ev → Option Ev) (body : Ev → Mo (Fl × Ev)) : List D → Ev → Mo (Fl × Ev)
  | [], env => pure (.nx, env)
  | d :: ds, env => do
    let env1 ← Mo.of (tg d env)
    let r ← body env1
    match r with
    | (.nx, env2) => forGo tg body ds env2
    | (.ct, env2) => forGo tg body ds env2
    | (.bk, env2) => pure (.nx, env2)
    | (.ret d, env2) => pure (.ret d, env2)
section
variable {W : Wd} {X : Cx} {E : XK} {e : En} {F F1 F2 : Fz} {g g1 g2 : G} {H H1 H2 : Hp} {env : Ev} {σ : St}
abbrev En.plus (e : En) (F : Fz) (H : Hp) : En := { e with wt := (F, H) :: e.wt }
theorem SS.less (s : SS W (e.plus F1 H1) env σ F g H) : SS W e env σ F g H := ⟨s.s, s.x, s.cn, fun q hq => s.st q (List.mem_cons_of_mem _ hq)⟩
theorem SS.more (s : SS W e env σ F g H) : SS W (e.plus F H) env σ F g H := ⟨s.s, s.x, s.cn, fun q hq => by
  rcases List.mem_cons.mp hq with rfl | hq
  · exact (Ext.refl s.s.wf).stay s.s.wf
  · exact s.st q hq⟩
theorem ds_for {tg iter : Expr} {body : List Stmt} {pos : Pos} {fi : Ev → Mo (List D)} {sl : List Nat} {ft : D → Ev → Option Ev} {fb : Ev → Mo (Fl × Ev)} (hp : PassesOwn (model X.prog X.w) X.A X.env X.xe) (hc : X.calm = true)
    (hi : PI X tg iter (tI W E fi)) (hg : PG X tg (tG W sl ft)) (hb : PSs X body (tS W E fb)) (hs : ∀ x, foldedSetIterable iter X.env x = pure x) :
    PS X (.For tg iter body [] pos) (tS W E fun env => do let ds ← fi env; forGo ft fb ds env) :=
  (ps_for hp hc hi hg hb hs).imp fun D' σ H ⟨e, F, g, env, s, p⟩ => ⟨F, g, env, s.s, ss_ev s p fun ds F1 g1 H1 x1 s1 p1 J dlv hz => by
    refine ⟨fun i m σ H => m = ds.length - i ∧ i ≤ ds.length ∧ ∃ F g env, SS W (e.plus F1 H1) env σ F g H ∧ PR W E (PSt W e D') e.F e.g e.H (forGo ft fb (ds.drop i) env g), ⟨ds.length, by simp, Nat.zero_le _, F1, g1, env, s1.more, by rw [List.drop_zero]; exact p1⟩, ?_⟩
    rintro i m σ H ⟨rfl, hi, F, g, env, s, p⟩
    have st := s.st (F1, H1) (List.mem_cons_self ..)
    by_cases hlt : i < ds.length
    · have hget : ds[i]? = some ds[i] := List.getElem?_eq_getElem hlt
      obtain ⟨go, yl⟩ := dlv.go F g H st i _ hget
      rw [List.drop_eq_getElem_cons hlt] at p
      obtain ⟨env1, e1, p⟩ := ss_of (o := ft ds[i] env) (k := fun env1 => do
        let r ← fb env1
        match r with
        | (.nx, env2) => forGo ft fb (ds.drop (i + 1)) env2
        | (.ct, env2) => forGo ft fb (ds.drop (i + 1)) env2
        | (.bk, env2) => pure (.nx, env2)
        | (.ret d, env2) => pure (.ret d, env2)) p
      refine .inr ⟨go, fun σ H => ∃ F g env, SS W (e.plus F1 H1) env σ F g H ∧ PR W E (PSt W e D') e.F e.g e.H (forGo ft fb (ds.drop (i + 1)) env g), fun σ' H' q => ⟨ds.length - (i + 1), by omega, rfl, hlt, q⟩, fun x Hy hy => ?_⟩
      obtain ⟨Fy, xy, ry⟩ := yl x Hy hy
      refine ⟨Fy, g, env, ds[i], env1, (s.ext xy).s, ry, e1, fun σ2 s2 o2 k2 => ⟨e.plus F1 H1, Fy, g, env1, (s.ext xy).kc s2 k2, ?_⟩⟩
      cases q : fb env1 g with
      | ok r g3 =>
        have p3 := PR.at_ q p
        obtain ⟨fl, env3⟩ := r
        cases fl with
        | nx => exact fun F' H' x σ' s' => ⟨F', g3, env3, s', p3⟩
        | ct => exact fun F' H' x σ' s' => ⟨F', g3, env3, s', p3⟩
        | bk => exact fun F' H' x σ' s' => p3 F' H' x σ' s'.less
        | ret d => exact p3
      | exc c g3 =>
        rw [bind_exc q] at p
        exact p
      | stuck =>
        rw [bind_stuck q] at p
        exact p
    · have e0 : i = ds.length := by omega
      subst e0
      rw [List.drop_length] at p
      exact .inl ⟨dlv.stop F g H st, pst_nx s.less p⟩⟩
end
/-! ### while -/
def whS (c : Ev → Mo Bool) (b : Ev → Mo (Fl × Ev)) (rec : Ev → Mo (Fl × Ev)) (env : Ev) : Mo (Fl × Ev) := do
  let k ← c env
  if k = true then do
    let r ← b env
    match r with
    | (.nx, env2) => rec env2
    | (.ct, env2) => rec env2
    | (.bk, env2) => pure (.nx, env2)
    | (.ret d, env2) => pure (.ret d, env2)
  else pure (.nx, env)
def whN (c : Ev → Mo Bool) (b : Ev → Mo (Fl × Ev)) : Nat → Ev → Mo (Fl × Ev)
  | 0 => fun _ => Mo.fail
  | n + 1 => whS c b (whN c b n)
theorem whS_mono {c : Ev → Mo Bool} {b : Ev → Mo (Fl × Ev)} {r r' : Ev → Mo (Fl × Ev)} (h : ∀ env g, r env g ≠ .stuck → r' env g = r env g) (env : Ev) (g : G) (n : whS c b r env g ≠ .stuck) : whS c b r' env g = whS c b r env g := by
  unfold whS at n ⊢
  cases q : c env g with
  | exc x g1 => rw [bind_exc q, bind_exc q]
  | stuck => rw [bind_stuck q] at n; exact absurd rfl n
  | ok k g1 =>
    rw [bind_ok q, bind_ok q]
    rw [bind_ok q] at n
    cases k with
    | false => rfl
    | true =>
      rw [if_pos rfl] at n
      rw [if_pos rfl, if_pos rfl]
      cases q2 : b env g1 with
      | exc x g2 => rw [bind_exc q2, bind_exc q2]
      | stuck => rw [bind_stuck q2] at n; exact absurd rfl n
      | ok k g2 =>
        rw [bind_ok q2, bind_ok q2]
        rw [bind_ok q2] at n
        obtain ⟨fl, env2⟩ := k
        cases fl with
        | nx => exact h env2 g2 n
        | ct => exact h env2 g2 n
        | bk => rfl
        | ret d => rfl
theorem whN_succ {c : Ev → Mo Bool} {b : Ev → Mo (Fl × Ev)} : ∀ (n : Nat) (env : Ev) (g : G), whN c b n env g ≠ .stuck → whN c b (n + 1) env g = whN c b n env g
  | 0, _, _, h => absurd rfl h
  | n + 1, env, g, h => whS_mono (fun env g h => whN_succ n env g h) env g h
theorem whN_le {c : Ev → Mo Bool} {b : Ev → Mo (Fl × Ev)} {n : Nat} (env : Ev) (g : G) (h : whN c b n env g ≠ .stuck) : ∀ k, whN c b (n + k) env g = whN c b n env g
  | 0 => rfl
  | k + 1 => by
    have z := whN_le env g h k
    rw [← Nat.add_assoc, whN_succ (n + k) env g (by rw [z]; exact h), z]
open Classical in
noncomputable def whD (c : Ev → Mo Bool) (b : Ev → Mo (Fl × Ev)) (env : Ev) : Mo (Fl × Ev) := fun g =>
  if h : ∃ n, whN c b n env g ≠ .stuck then whN c b (Classical.choose h) env g else .stuck
theorem whD_of {c : Ev → Mo Bool} {b : Ev → Mo (Fl × Ev)} {n : Nat} {env : Ev} {g : G} (h : whN c b n env g ≠ .stuck) : whD c b env g = whN c b n env g := by
  have hx : ∃ n, whN c b n env g ≠ .stuck := ⟨n, h⟩
  unfold whD
  rw [dif_pos hx]
  have h2 := Classical.choose_spec hx
  have e1 := whN_le env g h (Classical.choose hx)
  have e2 := whN_le env g h2 n
  rw [← e2, Nat.add_comm, e1]
theorem whD_some {c : Ev → Mo Bool} {b : Ev → Mo (Fl × Ev)} {env : Ev} {g : G} (h : whD c b env g ≠ .stuck) : ∃ n, whN c b n env g ≠ .stuck ∧ whD c b env g = whN c b n env g := by
  by_cases hx : ∃ n, whN c b n env g ≠ .stuck
  · obtain ⟨n, hn⟩ := hx
    exact ⟨n, hn, whD_of hn⟩
  · unfold whD at h
    rw [dif_neg hx] at h
    exact absurd rfl h
theorem whD_eq {c : Ev → Mo Bool} {b : Ev → Mo (Fl × Ev)} (env : Ev) (g : G) : whD c b env g = whS c b (whD c b) env g := by
  by_cases hx : ∃ n, whN c b n env g ≠ .stuck
  · obtain ⟨n, hn⟩ := hx
    rw [whD_of hn]
    cases n with
    | zero => exact absurd rfl hn
    | succ n =>
      show whS c b (whN c b n) env g = _
      rw [whS_mono (r' := whD c b) (fun env g h => whD_of h) env g hn]
  · have e1 : whD c b env g = .stuck := by unfold whD; rw [dif_neg hx]
    rw [e1]
    by_cases hs : whS c b (whD c b) env g = .stuck
    · exact hs.symm
    · exfalso
      unfold whS at hs
      cases q : c env g with
      | exc x g1 => exact hx ⟨1, by show whS c b _ env g ≠ _; unfold whS; rw [bind_exc q]; exact fun z => by cases z⟩
      | stuck => rw [bind_stuck q] at hs; exact hs rfl
      | ok k g1 =>
        rw [bind_ok q] at hs
        cases k with
        | false => exact hx ⟨1, by show whS c b _ env g ≠ _; unfold whS; rw [bind_ok q]; exact fun z => by cases z⟩
        | true =>
          rw [if_pos rfl] at hs
          cases q2 : b env g1 with
          | exc x g2 => exact hx ⟨1, by show whS c b _ env g ≠ _; unfold whS; rw [bind_ok q, if_pos rfl, bind_exc q2]; exact fun z => by cases z⟩
          | stuck => rw [bind_stuck q2] at hs; exact hs rfl
          | ok k g2 =>
            rw [bind_ok q2] at hs
            obtain ⟨fl, env2⟩ := k
            cases fl with
            | bk => exact hx ⟨1, by show whS c b _ env g ≠ _; unfold whS; rw [bind_ok q, if_pos rfl, bind_ok q2]; exact fun z => by cases z⟩
            | ret d => exact hx ⟨1, by show whS c b _ env g ≠ _; unfold whS; rw [bind_ok q, if_pos rfl, bind_ok q2]; exact fun z => by cases z⟩
            | nx =>
              obtain ⟨n, hn, _⟩ := whD_some (c := c) (b := b) (env := env2) (g := g2) hs
              exact hx ⟨n + 1, by show whS c b _ env g ≠ _; unfold whS; rw [bind_ok q, if_pos rfl, bind_ok q2]; exact hn⟩
            | ct =>
              obtain ⟨n, hn, _⟩ := whD_some (c := c) (b := b) (env := env2) (g := g2) hs
              exact hx ⟨n + 1, by show whS c b _ env g ≠ _; unfold whS; rw [bind_ok q, if_pos rfl, bind_ok q2]; exact hn⟩
section
variable {W : Wd} {X : Cx} {E : XK} {e : En} {F F1 F2 : Fz} {g g1 g2 : G} {H H1 H2 : Hp} {env : Ev} {σ : St}
theorem ds_while {c : Expr} {body : List Stmt} {pos : Pos} {fc : Ev → Mo Bool} {fb : Ev → Mo (Fl × Ev)} (hp : PassesOwn (model X.prog X.w) X.A X.env X.xe) (hc : PT X c (tT W E fc)) (hb : PSs X body (tS W E fb)) :
    PS X (.While c body [] pos) (tS W E (whD fc fb)) :=
  (ps_while hp hc hb).imp fun D' σ H ⟨e, F, g, env, s, p⟩ => by
    obtain ⟨n, _, en⟩ := whD_some (c := fc) (b := fb) (env := env) (g := g) fun z => by rw [z] at p; exact p
    rw [en] at p
    refine ⟨fun n σ H => ∃ F g env, SS W e env σ F g H ∧ PR W E (PSt W e D') e.F e.g e.H (whN fc fb n env g), ⟨n, F, g, env, s, p⟩, ?_⟩
    rintro n σ H ⟨F, g, env, s, p⟩
    cases n with
    | zero => exact p.elim
    | succ n =>
      refine ⟨F, g, env, s.s, ss_ev s p fun k F1 g1 H1 x1 s1 p1 => ?_⟩
      cases k with
      | false =>
        rw [if_neg Bool.false_ne_true] at p1 ⊢
        exact pst_nx s1 p1
      | true =>
        rw [if_pos rfl] at p1 ⊢
        refine ⟨fun σ H => ∃ F g env, SS W e env σ F g H ∧ PR W E (PSt W e D') e.F e.g e.H (whN fc fb n env g), fun σ' H' q => ⟨n, Nat.lt_succ_self n, q⟩, e, F1, g1, env, s1, ?_⟩
        cases q : fb env g1 with
        | ok r g3 =>
          have p3 := PR.at_ q p1
          obtain ⟨fl, env3⟩ := r
          cases fl with
          | nx => exact fun F' H' x σ' s' => ⟨F', g3, env3, s', p3⟩
          | ct => exact fun F' H' x σ' s' => ⟨F', g3, env3, s', p3⟩
          | bk => exact fun F' H' x σ' s' => p3 F' H' x σ' s'
          | ret d => exact p3
        | exc c g3 =>
          rw [bind_exc q] at p1
          exact p1
        | stuck =>
          rw [bind_stuck q] at p1
          exact p1
end
end TL
end
end

-- text TlO
section
set_option maxHeartbeats 4000000
set_option autoImplicit false
noncomputable section
namespace TL
open PySem PySem.Spec L2
open PyProof.Rows hiding St
/-! ### products -/
theorem tup_mul1 (l : Addr) (items : Array Value) (n : Nat) (dd : Option Addr) (sl : Array (Option Value)) (u : Tok) :
    Meets (Builtin.«tuple.__mul__» ⟨[.ref l, .int 1 u], []⟩) (fun _ R s => s.heap.get? l = some { cls := .type "tuple", dict := dd, data := .seq items n, slots := sl } ∧ R (.ok (.ret (Value.ref l))) s) :=
  .of_wp fun prog w A R s h => by
    obtain ⟨hp, g, d, tk, os⟩ := s
    obtain ⟨hl, h⟩ := h
    have f1 := AutoSeq1.idx_int
    have c1 : (items.isEmpty || (1 : Int) == 1) = true := by rw [show ((1 : Int) == 1) = true from rfl, Bool.or_true]
    wp_walk using wpAny_loadPart' hl
    all_goals (repeat (first
      | (refine wpAny_ite_true (decide_eq_true c1) ?_; wp_walk using wpAny_loadPart' hl)
      | (refine wpAny_ite_false (decide_eq_false (by decide)) ?_; wp_walk using wpAny_loadPart' hl)))
    all_goals first | exact h | exact ⟨_, rfl, h⟩ | skip
section
variable {W : Wd} {X : Cx} {E : XK}
def rRep1 (K : PySem.W.Frag) : R2 := fun x y H Q => ∃ l xs, x = .ref l ∧ y = .int 1 ∧ SqT K H l xs ∧ Q (.ref l) H
theorem op_rep1 : OpR X (binaryOp .Mult) (rRep1 X.K) := by
  intro pins s σ H x y v u Q I rx ry h
  obtain ⟨l, xs, rfl, rfl, hT, q⟩ := h
  cases rx
  obtain ⟨t, rfl⟩ := ry
  obtain ⟨its, r, ⟨⟨cls, dd, data, sl⟩, ho, hc, n, hd⟩, hs⟩ := I.tuple hT
  simp only at hc hd
  subst hc hd
  refine wpAny_binaryOp_repeat_ref (T := "tuple") (U := "int") (by decide) ⟨_, ho, rfl⟩ (fun s' => typeIs_int s' 1 t) noFill_tuple_mul F.fills_int_mul F.slot_int_rmul repeat_tuple F.slot_int_index.lookup
    (call_meets F.slot_int_rmul (typeIs_int s 1 t) F.entry_int_rmul (F.args_int_rmul_2 _ _) (int_rmul_tuple 1 t l its.toArray n dd sl)
      ⟨ho, rfl, ⟨_, ho, rfl⟩, call_meets F.slot_tuple_mul ⟨_, ho, rfl⟩ F.entry_tuple_mul (F.args_tuple_mul_2 _ _) (tup_mul1 l its.toArray n dd sl t) ⟨ho, ?_⟩⟩)
  exact ⟨.ref l, H, I, rfl, q⟩
def repS (x : Str) (k : Int) : Str := ⟨((List.replicate k.toNat x.cps.toList).flatten).toArray⟩
theorem foldl_arr {α : Type} (xs : Array α) : ∀ (m : Nat) (acc : Array α), List.foldl (fun x1 x2 => x1 ++ x2) acc (List.replicate m xs) = acc ++ ((List.replicate m xs.toList).flatten).toArray
  | 0, acc => by simp
  | m + 1, acc => by
    rw [List.replicate_succ, List.foldl_cons, foldl_arr xs m, List.replicate_succ, List.flatten_cons, Array.append_assoc]
    congr 1
    apply Array.ext'
    simp
theorem repS_eq (x : Str) (k : Int) (h : ¬ k < 1) : (if (k == 1 || x.length == 0) = true then x else ⟨(List.replicate k.toNat x.cps).foldl (· ++ ·) #[]⟩) = repS x k := by
  have e : (⟨(List.replicate k.toNat x.cps).foldl (· ++ ·) #[]⟩ : Str) = repS x k := by
    unfold repS
    rw [foldl_arr]
    simp
  by_cases c : (k == 1 || x.length == 0) = true
  · rw [if_pos c, ← e]
    obtain ⟨cs⟩ := x
    rcases Bool.or_eq_true_iff.mp c with c | c
    · have hk : k = 1 := by simpa using c
      subst hk
      show (⟨cs⟩ : Str) = ⟨List.foldl (· ++ ·) #[] [cs]⟩
      simp
    · have hz : cs.size = 0 := by simpa [Str.length] using c
      have hc : cs = #[] := by simpa using hz
      subst hc
      congr 1
      generalize k.toNat = m
      induction m with
      | zero => rfl
      | succ m ih => rw [List.replicate_succ, List.foldl_cons]; simpa using ih
  · rw [if_neg c, e]
def rRepS : R2 := fun x y H Q => ∃ z k, x = .str z ∧ y = .int k ∧ 0 ≤ k ∧ k ≤ 1000 ∧ z.length ≤ 1000 ∧ Q (.str (repS z k)) H
theorem op_repS : OpR X (binaryOp .Mult) rRepS := by
  intro pins s σ H x y v u Q I rx ry h
  obtain ⟨z, k, rfl, rfl, h0, h1, hz, q⟩ := h
  obtain ⟨t, rfl⟩ := rx
  obtain ⟨t', rfl⟩ := ry
  refine PySem.P.mul_str (by rw [decide_eq_false (by omega), decide_eq_false (by omega)] <;> rfl) (fun h1' _ hc => ?_) (fun h1' _ => ?_) ?_
  · have hh : (9223372036854775 : Int) ≤ (2 ^ 63 - 1) / k := (Int.le_ediv_iff_mul_le (by omega)).mpr (by omega)
    omega
  · unfold Builtin.Str.tooLong
    refine decide_eq_false ?_
    have : z.length * k.toNat ≤ 1000 * 1000 := Nat.mul_le_mul hz (by omega)
    rw [sizeLine_eq]
    omega
  · by_cases c : k < 1
    · rw [if_pos c]
      have hk : k = 0 := by omega
      subst hk
      exact ⟨by decide, .str Str.empty, H, I.tok _, ⟨_, rfl⟩, q⟩
    · rw [if_neg c]
      have e := repS_eq z k c
      by_cases c2 : (k == 1 || z.length == 0) = true
      · rw [if_pos c2] at e ⊢
        rw [← e] at q
        exact ⟨.str z, H, I, ⟨t, rfl⟩, q⟩
      · rw [if_neg c2] at e ⊢
        rw [← e] at q
        exact ⟨by
          rw [e]
          show (repS z k).length ≤ sizeLine
          unfold repS Str.length
          simp only [List.size_toArray]
          rw [PyProof.Rows.lm_len_rep_flat, Array.length_toList, sizeLine_eq]
          have : k.toNat * z.cps.size ≤ 1000 * 1000 := Nat.mul_le_mul (by omega) hz
          omega, .str ⟨(List.replicate k.toNat z.cps).foldl (· ++ ·) #[]⟩, H, I.tok _, ⟨_, rfl⟩, q⟩
abbrev rMulD (K : PySem.W.Frag) : R2 := fun x y H Q => (rI CMulW fun i j => .int (i * j)) x y H Q ∨ rRep x y H Q ∨ rRepT K x y H Q ∨ rRep1 K x y H Q ∨ rRepS x y H Q
theorem op_mulD : OpR X (binaryOp .Mult) (rMulD X.K) := op_mulW.or (op_rep.or (op_repT.or (op_rep1.or op_repS)))
/-- * -/
def multD : D → D → Mo D
  | .int i, .int j => if mulOk i j = true then pure (.int (i * j)) else Mo.fail
  | .lst xs, .int k => if 0 ≤ k ∧ k ≤ 1000 ∧ xs.length ≤ 1000 then pure (.lst (List.replicate k.toNat xs).flatten) else Mo.fail
  | .tup xs, .int k => if k = 1 then pure (.tup xs) else if 2 ≤ k ∧ k ≤ 1000 ∧ 1 ≤ xs.length ∧ xs.length ≤ 1000 then pure (.tup (List.replicate k.toNat xs).flatten) else Mo.fail
  | .str x, .int k => if 0 ≤ k ∧ k ≤ 1000 ∧ x.length ≤ 1000 then pure (.str (repS x k)) else Mo.fail
  | _, _ => Mo.fail
theorem RepL.rep {F : Fz} {H : Hp} {vs : List V} {ds : List D} (r : RepL W F H vs ds) : ∀ k : Nat, RepL W F H (List.replicate k vs).flatten (List.replicate k ds).flatten
  | 0 => .nil
  | k + 1 => by
    rw [List.replicate_succ, List.replicate_succ, List.flatten_cons, List.flatten_cons]
    exact r.append (RepL.rep r k)
theorem adq_mul : Adq2 W E multD (rMulD W.K) := by
  intro F g H x y a b Q w ra rb p
  cases ra with
  | int i => cases rb with
    | int j =>
      obtain ⟨c, p⟩ := pr_if p
      have c2 : i.natAbs.log2 + j.natAbs.log2 < 1000000 := of_decide_eq_true c
      exact .inl ⟨i, j, rfl, rfl, c2, pq_pure w p (.int _)⟩
    | _ => exact p.elim
  | lst f h z r => cases rb with
    | int k =>
      obtain ⟨⟨c1, c2, c3⟩, p⟩ := pr_if p
      refine .inr (.inl ⟨_, k, _, rfl, rfl, h, by omega, by omega, ?_, fun q hq => pq_lst w p (r.rep k.toNat) ?_ hq⟩)
      · rw [r.length, sizeLine_eq]
        have := Nat.mul_le_mul c3 (show k.toNat ≤ 1000 by omega)
        omega
      · rw [PyProof.Rows.lm_len_rep_flat, sizeLine_eq]
        have := Nat.mul_le_mul (show k.toNat ≤ 1000 by omega) c3
        omega
    | _ => exact p.elim
  | tup h z r => cases rb with
    | int k =>
      have p : PR W E (PQ W Q) F g H ((if k = 1 then pure (.tup _) else if 2 ≤ k ∧ k ≤ 1000 ∧ 1 ≤ _ ∧ _ ≤ 1000 then pure (.tup (List.replicate k.toNat _).flatten) else Mo.fail : Mo D) g) := p
      by_cases c : k = 1
      · rw [if_pos c] at p
        subst c
        exact .inr (.inr (.inr (.inl ⟨_, _, rfl, rfl, h, pq_pure w p (.tup h z r)⟩)))
      · rw [if_neg c] at p
        obtain ⟨⟨c1, c2, c3, c4⟩, p⟩ := pr_if p
        refine .inr (.inr (.inl ⟨_, k, _, rfl, rfl, h, fun e => ?_, c1, c2, by rw [r.length]; exact c4, fun q hq => pq_tup w p (r.rep k.toNat) ?_ hq⟩))
        · subst e
          have := r.length
          simp at this
          omega
        · rw [PyProof.Rows.lm_len_rep_flat, sizeLine_eq]
          have := Nat.mul_le_mul (show k.toNat ≤ 1000 by omega) c4
          omega
    | _ => exact p.elim
  | str s => cases rb with
    | int k =>
      obtain ⟨⟨c1, c2, c3⟩, p⟩ := pr_if p
      exact .inr (.inr (.inr (.inr ⟨s, k, rfl, rfl, c1, c2, c3, pq_pure w p (.str _)⟩)))
    | _ => exact p.elim
  | _ => exact p.elim
end
end TL
end
end

-- text TlO2
section
set_option maxHeartbeats 4000000
set_option autoImplicit false
noncomputable section
namespace TL
open PySem PySem.Spec L2
open PyProof.Rows hiding St
/-! ### t[::-1] of a tuple -/
section
variable {prog : Program} {w : World} {A : Around} {E : Value → Shared → Prop} {s : Shared}
theorem back_pick (xs : Array Value) : ((List.range xs.size).filterMap fun (k : Nat) => xs[(((xs.size : Int) - 1) + (k : Int) * (-1)).toNat]?).toArray = xs.toList.reverse.toArray := by
  have e : (fun (k : Nat) => xs[(((xs.size : Int) - 1) + (k : Int) * (-1)).toNat]?) = (fun m => xs[m]?) ∘ (fun k => xs.size - 1 - k) := by
    funext k
    have : (((xs.size : Int) - 1) + (k : Int) * (-1)).toNat = xs.size - 1 - k := by omega
    simp only [Function.comp, this]
  rw [e, ← List.filterMap_map, PySem.W.krv_range, List.filterMap_reverse, PySem.W.krv_all]
theorem back_applied {sl : Addr} {vl vu vs : Value} {n : Nat} {Q : Int × Int × Nat → Shared → Prop} (hs : s.heap.IsSliceOf sl vl vu vs) (pl : IsPart vl none) (pu : IsPart vu none) (ps : IsPart vs (some (-1)))
    (h : Q ((n : Int) - 1, -1, n) s) : wpAny (model prog w) A (Builtin.Slice.sliceApplied (.ref sl) (pure (n : Int))) Q E s := by
  obtain ⟨os, h1, _, h2⟩ := id hs
  unfold Builtin.Slice.sliceApplied Builtin.Slice.sliceFields
  refine wpAny_bind (wpAny_bind (wpAny_field h1 h2 (x := vl) rfl (wpAny_bind (wpAny_field h1 h2 (x := vu) rfl (wpAny_bind (wpAny_field h1 h2 (x := vs) rfl (wpAny_pure ?_)))))))
  refine wpAny_bind (HT.slicePart_ ps ?_)
  show wpAny _ _ (if ((-1 : Int) == 0) = true then _ else _) _ _ s
  rw [if_neg (by decide)]
  refine wpAny_bind (HT.slicePart_ pl (wpAny_bind (HT.slicePart_ pu (wpAny_bind (wpAny_pure ?_)))))
  have e : Builtin.Slice.sliceAdjust none none (-1) (n : Int) = ((n : Int) - 1, -1) := by
    simp [Builtin.Slice.sliceAdjust]
  have e2 : Builtin.Slice.slicePlaces ((n : Int) - 1) (-1) (-1) = n := by
    unfold Builtin.Slice.slicePlaces
    simp
    try omega
  show wpAny _ _ (match Builtin.Slice.sliceAdjust none none (-1) (n : Int) with | (lo, hi) => pure (lo, (-1 : Int), Builtin.Slice.slicePlaces lo hi (-1))) _ _ s
  rw [e]
  show wpAny _ _ (pure ((n : Int) - 1, (-1 : Int), Builtin.Slice.slicePlaces ((n : Int) - 1) (-1) (-1))) _ _ s
  rw [e2]
  exact wpAny_pure h
theorem back_item {t sl : Addr} {items : Array Value} {vl vu vs : Value} {Q : Value → Shared → Prop} (ht : IsTup s.heap t items) (hs : s.heap.IsSliceOf sl vl vu vs) (pl : IsPart vl none) (pu : IsPart vu none) (ps : IsPart vs (some (-1)))
    (h : Q (.ref s.heap.objs.size) { s with heap := s.heap.push { cls := .type "tuple", data := .seq items.toList.reverse.toArray } }) (hz : items.size ≤ sizeLine) : wpAny (model prog w) A (getItem (.ref t) (.ref sl)) Q E s := by
  have fit : sizeOk (.seq items.toList.reverse.toArray) := by
    show items.toList.reverse.toArray.size ≤ sizeLine
    rw [List.size_toArray, List.length_reverse, Array.length_toList]
    exact hz
  obtain ⟨os, h1, h2, h3⟩ := id hs
  have tS : s.TypeIs (.ref sl) "slice" := ⟨os, h1, h2⟩
  unfold getItem
  try with_reducible refine wpAny_holding ?_
  first | refine wpAny_bind (wpAny_pure ?_) | skip
  refine wpAny_bind (wpAny_sequenceKey ht.typeIs (by decide) ?_)
  refine wpAny_bind (wpAny_callSpecial?_slot (name := Str.ofString "__getitem__") ht.typeIs PyProof.Rows.slot_tuple_getitem (wpAny_call_entry PyProof.Rows.slot_tuple_getitem ht.typeIs entry_tuple_getitem ?_
    (args_tuple_getitem _ _)))
  show wpAny _ _ (Builtin.Tuple.tupleItemsOf (.ref t) >>= _) _ _ s
  refine wpAny_bind (tupleItemsOf_ ht ?_)
  refine wpAny_bind (wpAny_typeOf tS ?_)
  rw [if_pos (by decide)]
  refine wpAny_bind (back_applied (n := items.size) hs pl pu ps ?_)
  have no : ¬ ((((items.size : Int) - 1) == 0 && (-1 : Int) == 1 && items.size == items.size) = true) := fun q => by
    rw [show ((-1 : Int) == 1) = false from rfl, Bool.and_false, Bool.false_and] at q
    cases q
  show wpAny _ _ (if (((items.size : Int) - 1) == 0 && (-1 : Int) == 1 && items.size == items.size) = true then _ else _) _ _ s
  rw [if_neg no, back_pick]
  first
    | exact wpAny_bind (m := Builtin.Tuple.tupleExact _) (wpAny_newObj_type (wpAny_pure ⟨_, rfl, wpAny_pure h⟩) fit)
    | exact wpAny_bind (m := Builtin.Tuple.tupleExact _) (wpAny_newObj_type (wpAny_bind (wpAny_pure (wpAny_pure ⟨_, rfl, wpAny_pure h⟩))) fit)
end
section
variable {W : Wd} {X : Cx} {E : XK} {F : Fz} {g : G} {H : Hp}
def rBack (K : PySem.W.Frag) : V → Hp → VK → Prop := fun x H1 Q => (∃ a xs, x = .ref a ∧ SqL K H1 a xs ∧ ∀ p, H1 p = none → Q (.ref p) (upd H1 p (.lst xs.reverse))) ∨ ∃ a xs, x = .ref a ∧ SqT K H1 a xs ∧ ∀ p, H1 p = none → Q (.ref p) (upd H1 p (.tup xs.reverse))
theorem pe_back {e : Expr} {te : TE} {k : Nat} {p1 p2 p3 pos : Pos} (he : PE X e te) : PE X (.Subscript e (.Slice none none (some (.UnaryOp .USub (.Constant (.int 1) k p1) p2)) p3) pos) (fun σ H Q => te σ H fun x H1 => rBack X.K x H1 Q) := by
  refine ⟨fun pins s σ H Q I h => ?_⟩
  refine Subscript_ (thn (he.run pins s σ H _ I h) fun v s1 ⟨x, H1, I1, r1, q1⟩ => ?_)
  have hst : PO X (some (.UnaryOp .USub (.Constant (.int 1) k p1) p2)) (tPart (tUn (rU fun i => .int (-i)) (tC (.int 1)))) := po_some (pe_un un_neg pe_int)
  refine wpAny_Slice (thn (po_none.run pins s1 σ H1 (fun o H2 => o = none ∧ H2 = H1) I1 ⟨rfl, rfl⟩) fun vl s2 ⟨l, H2, I2, pl, el, e2⟩ => ?_)
  subst el e2
  refine thn (po_none.run pins s2 σ H2 (fun o H3 => o = none ∧ H3 = H2) I2 ⟨rfl, rfl⟩) fun vu s3 ⟨u, H3, I3, pu, eu, e3⟩ => ?_
  subst eu e3
  refine thn (hst.run pins s3 σ H3 (fun o H4 => o = some (-1) ∧ H4 = H3) I3 ⟨1, rfl, -1, rfl, rfl, rfl⟩) fun vs s4 ⟨o, H4, I4, ps, eo, e4⟩ => ?_
  subst eo e4
  have I5 : Inv X pins σ H4 { s4 with heap := s4.heap.push { cls := .type "slice", data := .fields #[vl, vu, vs] } } := I4.kept (t' := s4.toks) fun b ob q => Heap.get?_push_of_some _ q
  rcases q1 with ⟨a, xs, rfl, hx, q⟩ | ⟨a, xs, rfl, hx, q⟩
  · cases r1
    obtain ⟨its, r, ht, hz⟩ := I5.list hx
    have hlen := r.length
    show wpAny (model X.prog X.w) X.A (subscriptTail e (.Slice none none (some (.UnaryOp .USub (.Constant (.int 1) k p1) p2)) p3) (.ref a) (.ref s4.heap.objs.size)) (EP X pins σ Q) X.xe { s4 with heap := s4.heap.push { cls := .type "slice", data := .fields #[vl, vu, vs] } }
    refine tail_any (ops := [.ref a, .ref s4.heap.objs.size]) ht.isList.typeIs (PySem.slot_list_getitem.lookup) ?_ (by with_unfolding_all rfl)
    refine wpAny_getItem_list_slice ht.isList (Heap.IsSliceOf.new _ vl vu vs) pl pu ps (by decide) ?_ (by rw [List.size_toArray]; omega)
    rw [PySem.W.krv_pick]
    refine ⟨.ref _, _, I5.laid (t' := s4.toks) (o := .lst xs.reverse) (fun b ob q => Heap.get?_push_of_some _ q) (Nat.le_refl _) ?_, rfl, q _ (I5.hok.fresh (Nat.le_refl _))⟩
    exact ⟨by rw [List.length_reverse]; exact hz, _, 0, r.reverse, Heap.get?_push_size _ rfl⟩
  · cases r1
    obtain ⟨its, r, ht, hz⟩ := I5.tuple hx
    have hlen := r.length
    show wpAny (model X.prog X.w) X.A (subscriptTail e (.Slice none none (some (.UnaryOp .USub (.Constant (.int 1) k p1) p2)) p3) (.ref a) (.ref s4.heap.objs.size)) (EP X pins σ Q) X.xe { s4 with heap := s4.heap.push { cls := .type "slice", data := .fields #[vl, vu, vs] } }
    refine tail_any (ops := [.ref a, .ref s4.heap.objs.size]) ht.typeIs PyProof.Rows.slot_tuple_getitem.lookup ?_ (by with_unfolding_all rfl)
    refine back_item ht (Heap.IsSliceOf.new _ vl vu vs) pl pu ps ?_ (by rw [List.size_toArray]; omega)
    refine ⟨.ref _, _, I5.laid (t' := s4.toks) (o := .tup xs.reverse) (fun b ob q => Heap.get?_push_of_some _ q) (Nat.le_refl _) ?_, rfl, q _ (I5.hok.fresh (Nat.le_refl _))⟩
    exact ⟨by rw [List.length_reverse]; exact hz, _, r.reverse, IsTup.new _ _⟩
def backD (d : D) : Mo D := match d with
  | .tup xs => pure (.tup xs.reverse)
  | .lst xs => pure (.lst xs.reverse)
  | _ => Mo.fail
theorem de_back {e : Expr} {fe : Ev → Mo D} {k : Nat} {p1 p2 p3 pos : Pos} (hK : X.K = W.K) (he : PE X e (tE W E fe)) : PE X (.Subscript e (.Slice none none (some (.UnaryOp .USub (.Constant (.int 1) k p1) p2)) p3) pos) (tE W E fun env => do let d ← fe env; backD d) :=
  (pe_back he).imp fun σ H Q ⟨F, g, env, s, p⟩ => ⟨F, g, env, s, p.bnd fun d F1 g1 H1 x1 p1 v rv => by
    rw [hK]
    cases rv with
    | tup h z r => exact .inr ⟨_, _, rfl, h, fun q hq => pq_tup x1.wf p1 r.reverse (by rw [List.length_reverse]; exact z) hq⟩
    | lst f h z r => exact .inl ⟨_, _, rfl, .inl (.inl h), fun q hq => pq_lst x1.wf p1 r.reverse (by rw [List.length_reverse]; exact z) hq⟩
    | _ => exact p1.elim⟩
end
end TL
end
end

-- text TlP
section
set_option maxHeartbeats 4000000
set_option autoImplicit false
noncomputable section
namespace TL
open PySem PySem.Spec L2
open PyProof.Rows hiding St
/-! ### the text's shape -/
def notStar : Expr → Bool
  | .Starred .. => false
  | _ => true
def notSlice : Expr → Bool
  | .Slice .. => false
  | _ => true
def notSet : Expr → Bool
  | .Set .. => false
  | _ => true
def noComp : Expr → Bool
  | .ListComp .. => false
  | .SetComp .. => false
  | .DictComp .. => false
  | _ => true
def plainT : Expr → Bool
  | .UnaryOp .Not _ _ => false
  | .BoolOp .. => false
  | .IfExp .. => false
  | .Compare .. => false
  | _ => true
theorem star_cons {e : Expr} {es : List Expr} {env : Env} (h : notStar e = true) : starEach (e :: es) env = (false, eval e env) :: starEach es env := by
  cases e <;> first | rfl | cases h
theorem star_any {es : List Expr} {env : Env} {pos : Pos} (h : es.all notStar = true) : (backTo pos (starEach es env)).any (·.1) = false := by
  induction es with
  | nil => rfl
  | cons e es ih =>
    rw [List.all_cons, Bool.and_eq_true] at h
    rw [star_cons h.1]
    show (false || (backTo pos (starEach es env)).any (·.1)) = false
    rw [ih h.2, Bool.false_or]
theorem plain_ix {b : Expr} (h : notSlice b = true) : PlainIx b := by
  intro o i
  cases b <;> first | rfl | cases h
theorem no_swap {e : Expr} {t : Option Expr} {l : Nat} {env : Env} (h : noComp e = true) : swapsWith e t l env = pure false := by
  cases e <;> first | rfl | cases h
theorem not_folded {e : Expr} {env : Env} (h : notSet e = true) : ∀ x, foldedSetIterable e env x = pure x := by
  intro x
  cases e <;> first | rfl | cases h
theorem no_marks {op : CmpOp} {e : Expr} (h : notSet e = true) : behindInMarks op e = false := by
  cases e <;> first | rfl | cases h
theorem no_last {op op' : CmpOp} {b c : Expr} (h : notSet c = true) : lastMarks [op, op'] [b, c] = false := no_marks h
theorem plain_truth {a : Expr} {env : Env} (h : plainT a = true) : ∀ whole, isTrue a env whole = (do let v ← whole; standAt a.pos; holding [v] (truthy v)) := by
  intro whole
  cases a with
  | UnaryOp op e pos => cases op <;> first | rfl | cases h
  | _ => first | rfl | cases h

/-! ### what is known of the names -/
structure FnE where
  n : Nat
  run : List D → Mo D
  kws : List (Nat × List Str × List Nat)
structure Gt where
  fns : List (Str × FnE)
  vals : List (Str × D)
  excs : List Str
  free : List Str
  blts : List (Str × String)
  ax : Wd → Program → World → PySem.W.Frag → (Str → Option Value) → Heap → Nat → Value → Str → Prop := fun _ _ _ _ _ _ _ _ _ => True
structure Cs where
  N : List Str
  sc : Scope
  blk : Option Scope
  hint : List (Nat × Nat)
  code : Bool := false
def fnB (cs : Cs) (x : Str) : Bool := match cs.blk with
  | none => true
  | some sc => decide (cs.sc.names.lookup x = some .local) || (sc.names.lookup x == some .cell)
def FEk (W : Wd) (P : Program) (w : World) (K : PySem.W.Frag) (mg : Str → Option Value) (base : Heap) (k : Nat) (x : Str) (e : FnE) : Prop :=
  ∃ f fd ps j, j ≤ k ∧ FnOk P w K mg base (L2.CX P w) j f fd ps (spD W e.n e.run) ∧ mg x = some (.ref f) ∧ PySem.W.keepIn K (.ref f) = true ∧ Binds K fd ps [] ∧ ∀ q, q ∈ e.kws → KwB K fd ps q.2.1 q.1 q.2.2 ∧ q.2.2.length = e.n
structure GlP (W : Wd) (P : Program) (w : World) (K : PySem.W.Frag) (mg : Str → Option Value) (base : Heap) (k : Nat) (gt : Gt) : Prop where
  fns : ∀ x e, gt.fns.lookup x = some e → FEk W P w K mg base k x e
  vals : ∀ x d, gt.vals.lookup x = some d → ∃ u v, mg x = some u ∧ RelV v u ∧ ∀ F H, Rep W F H v d
  excs : ∀ x, x ∈ gt.excs → ∃ C B n i b, ExcBaseFacts B n i b ∧ PySem.W.excIn K C b n = true ∧ mg x = some (.ref C) ∧ PySem.W.keepIn K (.ref C) = true ∧ PySem.W.subIn K (.ref C) (.type "BaseException") = some true ∧ PySem.W.typeIn K (.ref C) = some (.type "type")
  free : ∀ x, x ∈ gt.free → mg x = none
  blts : ∀ x i, gt.blts.lookup x = some i → mg x = some (.builtin i)
abbrev GlOk (W : Wd) (X : Cx) (k : Nat) (gt : Gt) : Prop := GlP W X.prog X.w X.K X.mg X.base k gt
structure CxOk (W : Wd) (gt : Gt) (k : Nat) (E : XK) (X : Cx) (cs : Cs) : Prop where
  K : X.K = W.K
  mg : X.mg = W.mg
  N : X.N = cs.N
  nd : cs.N.Nodup
  sc : X.env.scope = cs.sc
  calm : X.calm = true
  fn : ∀ x, fnB cs x = true → X.fn x = true ∨ X.env.scope.names.lookup x = some .local
  room : Room k X.A
  ps : Passes (L2.CX X.prog X.w) X E
  gl : GlOk W X k gt
  cd : cs.code = true → gt.ax W X.prog X.w X.K X.mg X.base k X.env.code X.env.qual
/-- the place of a name -/
def findI (x : Str) : List Str → Option Nat
  | [] => none
  | y :: ys => if x = y then some 0 else (findI x ys).map (· + 1)
theorem findI_get {x : Str} : ∀ {N : List Str} {i : Nat}, findI x N = some i → N[i]? = some x
  | [], _, h => by cases h
  | y :: ys, i, h => by
    unfold findI at h
    by_cases c : x = y
    · rw [if_pos c] at h
      cases h
      rw [c]
      rfl
    · rw [if_neg c] at h
      obtain ⟨j, h1, h2⟩ := Option.map_eq_some_iff.mp h
      subst h2
      exact findI_get (N := ys) h1
def visB (sc : Scope) (x : Str) : Bool := match sc.names.lookup x with
  | some .local => true
  | some .cell => true
  | some .free => true
  | _ => false
def locB (sc : Scope) (x : Str) : Bool := match sc.names.lookup x with
  | some .local => true
  | some .cell => true
  | _ => false
def gloB (sc : Scope) (x : Str) : Bool := match sc.names.lookup x with
  | some .globalImplicit => true
  | _ => false
def nmB (x : Str) : Bool := !(x == ("__debug__" : Str)) && !(x == ("__classdict__" : Str)) && !decide (x = ("__name__" : Str))
theorem visB_ok {sc : Scope} {x : Str} (h : visB sc x = true) : Vis sc x := by
  unfold visB at h
  unfold Vis
  split at h
  · exact .inl (by assumption)
  · exact .inr (.inl (by assumption))
  · exact .inr (.inr (by assumption))
  · cases h
theorem locB_ok {sc : Scope} {x : Str} (h : locB sc x = true) : L2.Loc sc x := by
  unfold locB at h
  unfold L2.Loc
  split at h
  · exact .inl (by assumption)
  · exact .inr (by assumption)
  · cases h
theorem gloB_ok {X : Cx} {x : Str} (h : gloB X.env.scope x = true) : Gl X x := by
  unfold gloB at h
  show X.env.scope.names.lookup x = _
  split at h
  · assumption
  · cases h
theorem nmB_ok {x : Str} (h : nmB x = true) : (x == ("__debug__" : Str)) = false ∧ (x == ("__classdict__" : Str)) = false ∧ x ≠ "__name__" := by
  unfold nmB at h
  rw [Bool.and_eq_true, Bool.and_eq_true] at h
  exact ⟨by simpa using h.1.1, by simpa using h.1.2, by simpa using h.2⟩
section
variable {W : Wd} {X : Cx} {E : XK} {k : Nat} {gt : Gt} {cs : Cs}
theorem pe_no {e : Expr} : PE X e (tE W E fun _ => Mo.fail) := ⟨fun pins s σ H Q I ⟨_, _, _, _, p⟩ => p.elim⟩
theorem pt_no {e : Expr} : PT X e (tT W E fun _ => Mo.fail) := ⟨fun pins s σ H Q I ⟨_, _, _, _, p⟩ => p.elim⟩
theorem pa_no {e : List Expr} : PA X e (tA W E fun _ => Mo.fail) := ⟨fun pos pins s σ H Q I ⟨_, _, _, _, p⟩ => p.elim⟩
theorem pi_no {tg e : Expr} : PI X tg e (tI W E fun _ => Mo.fail) := ⟨fun pins s σ H Q I ⟨_, _, _, _, p⟩ => p.elim⟩
theorem ps_no {e : Stmt} : PS X e (tS W E fun _ => Mo.fail) := ⟨fun pins s σ H Q I ⟨_, _, _, _, _, p⟩ => p.elim⟩
theorem po_no {e : Option Expr} : PO X e (tO W E fun _ => Mo.fail) := ⟨fun pins s σ H Q I ⟨_, _, _, _, p⟩ => p.elim⟩
theorem iteE {c : Bool} {e : Expr} {f : Ev → Mo D} (h : c = true → PE X e (tE W E f)) : PE X e (tE W E (if c = true then f else fun _ => Mo.fail)) := by
  by_cases q : c = true
  · rw [if_pos q]; exact h q
  · rw [if_neg q]; exact pe_no
theorem iteT {c : Bool} {e : Expr} {f : Ev → Mo Bool} (h : c = true → PT X e (tT W E f)) : PT X e (tT W E (if c = true then f else fun _ => Mo.fail)) := by
  by_cases q : c = true
  · rw [if_pos q]; exact h q
  · rw [if_neg q]; exact pt_no
theorem iteI {c : Bool} {tg e : Expr} {f : Ev → Mo (List D)} (h : c = true → PI X tg e (tI W E f)) : PI X tg e (tI W E (if c = true then f else fun _ => Mo.fail)) := by
  by_cases q : c = true
  · rw [if_pos q]; exact h q
  · rw [if_neg q]; exact pi_no
theorem iteA {c : Bool} {e : List Expr} {f : Ev → Mo (List D)} (h : c = true → PA X e (tA W E f)) : PA X e (tA W E (if c = true then f else fun _ => Mo.fail)) := by
  by_cases q : c = true
  · rw [if_pos q]; exact h q
  · rw [if_neg q]; exact pa_no
theorem iteS {c : Bool} {e : Stmt} {f : Ev → Mo (Fl × Ev)} (h : c = true → PS X e (tS W E f)) : PS X e (tS W E (if c = true then f else fun _ => Mo.fail)) := by
  by_cases q : c = true
  · rw [if_pos q]; exact h q
  · rw [if_neg q]; exact ps_no
/-! ### names, operators -/
def nmE (gt : Gt) (cs : Cs) (x : Str) : Ev → Mo D :=
  if nmB x = true then
    (if visB cs.sc x = true then (match findI x cs.N with
      | some i => fun env => Mo.of (getS env i)
      | none => fun _ => Mo.fail)
    else (if gloB cs.sc x = true then (match gt.vals.lookup x with
      | some d => fun _ => pure d
      | none => fun _ => Mo.fail)
    else fun _ => Mo.fail))
  else fun _ => Mo.fail
theorem nmE_ok (c : CxOk W gt k E X cs) (x : Str) (pos : Pos) : PE X (.Name x pos) (tE W E (nmE gt cs x)) := by
  unfold nmE
  refine iteE fun h => ?_
  obtain ⟨h1, h2, h3⟩ := nmB_ok h
  by_cases v : visB cs.sc x = true
  · rw [if_pos v]
    cases e : findI x cs.N with
    | none => exact pe_no
    | some i => exact de_var (by rw [c.N]; exact findI_get e) (by rw [c.sc]; exact visB_ok v) h1 h2
  · rw [if_neg v]
    refine iteE fun hg => ?_
    cases e : gt.vals.lookup x with
    | none => exact pe_no
    | some d =>
      obtain ⟨u, w, e1, e2, e3⟩ := c.gl.vals x d e
      exact de_glo (gloB_ok (by rw [c.sc]; exact hg)) e1 e2 e3 h1
def opF : Operator → Option (D → D → Mo D)
  | .Add => some addD
  | .Sub => some subD
  | .Mult => some multD
  | .FloorDiv => some fdivD
  | .Mod => some modD
  | .Pow => some powD
  | _ => none
def opE (op : Operator) (fa fb : Ev → Mo D) : Ev → Mo D := match opF op with
  | some f => fun env => do let a ← fa env; let b ← fb env; f a b
  | none => fun _ => Mo.fail
theorem opF_ok (c : CxOk W gt k E X cs) {op : Operator} {f : D → D → Mo D} (h : opF op = some f) : ∃ r, OpR X (binaryOp op) r ∧ Adq2 W E f r := by
  cases op with
  | Add => cases h; exact ⟨_, c.K ▸ op_addD, adq_add⟩
  | Sub => cases h; exact ⟨_, op_sub, adq_sub⟩
  | Mult => cases h; exact ⟨_, c.K ▸ op_mulD, adq_mul⟩
  | FloorDiv => cases h; exact ⟨_, op_fdivD, adq_fdiv⟩
  | Mod => cases h; exact ⟨_, op_mod, adq_mod⟩
  | Pow => cases h; exact ⟨_, op_powW, adq_pow⟩
  | _ => cases h
theorem opE_ok (c : CxOk W gt k E X cs) {op : Operator} {a b : Expr} {fa fb : Ev → Mo D} {pos : Pos} (ha : PE X a (tE W E fa)) (hb : PE X b (tE W E fb)) : PE X (.BinOp a op b pos) (tE W E (opE op fa fb)) := by
  unfold opE
  cases e : opF op with
  | none => exact pe_no
  | some f =>
    obtain ⟨r, h1, h2⟩ := opF_ok c e
    exact de_op h1 h2 ha hb
def cmF : CmpOp → D → D → Mo D
  | .Eq => eqD
  | .NotEq => neD
  | .Lt => ltD
  | .LtE => leD
  | .Gt => gtD
  | .GtE => geD
  | .Is => isD
  | .IsNot => isNotD
  | .In => inD
  | .NotIn => notInD
theorem units_ok (c : CxOk W gt k E X cs) : X.A.units + 70 < cLine := by
  have := c.room.un
  omega
theorem cmF_ok (c : CxOk W gt k E X cs) (op : CmpOp) : ∃ r, OpR X (compareOp op) r ∧ Adq2 W E (cmF op) r := by
  have hu := units_ok c
  cases op with
  | Eq => exact ⟨_, c.K ▸ op_eqD (by omega), adq_eq⟩
  | NotEq => exact ⟨_, c.K ▸ op_neD (by omega), adq_ne⟩
  | Lt => exact ⟨_, op_ltD, adq_lt⟩
  | LtE => exact ⟨_, op_leD, adq_le⟩
  | Gt => exact ⟨_, op_gtD, adq_gt⟩
  | GtE => exact ⟨_, op_geD, adq_ge⟩
  | Is => exact ⟨_, op_isDD, adq_is⟩
  | IsNot => exact ⟨_, op_isNotDD, adq_isNot⟩
  | In => exact ⟨_, c.K ▸ op_inX (by omega), adq_in⟩
  | NotIn => exact ⟨_, c.K ▸ op_notInX (by omega), adq_notIn⟩
/-! ### targets -/
def Tgt := List Nat × (D → Ev → Option Ev)
def tgN (cs : Cs) : Expr → Option Tgt
  | .Name x _ => match findI x cs.N with
    | some i => if (locB cs.sc x && fnB cs x) = true then some ([i], asgN i) else none
    | none => none
  | _ => none
def tgs (r : Expr → Option Tgt) : List Expr → Option (List Nat × (List D → Ev → Option Ev))
  | [] => some ([], asgNil)
  | e :: es => if notStar e = true then (match r e, tgs r es with
    | some a, some b => some (a.1 ++ b.1, asgCons a.2 b.2)
    | _, _ => none) else none
def tgT (r : Expr → Option Tgt) (cs : Cs) : Expr → Option Tgt
  | .Tuple es _ _ => (tgs r es).map fun q => (q.1, asgT es.length q.2)
  | e => tgN cs e
def tgF (cs : Cs) : Expr → Option Tgt := tgT (tgT (tgT (fun _ => none) cs) cs) cs
theorem star_asg {e : Expr} {es : List Expr} {env : Env} (h : notStar e = true) : assignEach (e :: es) env = (false, assign e env) :: assignEach es env := by
  cases e <;> first | rfl | cases h
theorem tgN_ok (c : CxOk W gt k E X cs) {e : Expr} {q : Tgt} (h : tgN cs e = some q) : PG X e (tG W q.1 q.2) := by
  unfold tgN at h
  cases e with
  | Name x pos =>
    cases e0 : findI x cs.N with
    | none => simp only [e0] at h; cases h
    | some i =>
      simp only [e0] at h
      by_cases b : (locB cs.sc x && fnB cs x) = true
      · rw [if_pos b] at h
        cases h
        rw [Bool.and_eq_true] at b
        exact dg_name (by rw [c.N]; exact c.nd) (by rw [c.N]; exact findI_get e0) (by rw [c.sc]; exact locB_ok b.1) (c.fn x b.2)
      · rw [if_neg b] at h; cases h
  | _ => cases h
theorem tgs_ok (c : CxOk W gt k E X cs) {r : Expr → Option Tgt} (hr : ∀ e q, r e = some q → PG X e (tG W q.1 q.2)) : ∀ {es : List Expr} {q : List Nat × (List D → Ev → Option Ev)}, tgs r es = some q →
    PGs X es (tGs W q.1 q.2) ∧ (assignEach es X.env).length = es.length ∧ (assignEach es X.env).findIdx? (·.1) = none
  | [], q, h => by
    cases h
    exact ⟨dgs_nil, rfl, rfl⟩
  | e :: es, q, h => by
    unfold tgs at h
    by_cases b : notStar e = true
    · rw [if_pos b] at h
      cases e1 : r e with
      | none => simp only [e1] at h; cases h
      | some a =>
        cases e2 : tgs r es with
        | none => simp only [e1, e2] at h; cases h
        | some b' =>
          simp only [e1, e2] at h
          cases h
          obtain ⟨h1, h2, h3⟩ := tgs_ok c hr e2
          refine ⟨dgs_cons (hr e a e1) h1 (by rw [star_asg b] <;> rfl), by rw [star_asg b, List.length_cons, List.length_cons, h2], ?_⟩
          rw [star_asg b, List.findIdx?_cons]
          simp only [h3]
          rfl
    · rw [if_neg b] at h; cases h
theorem tgT_ok (c : CxOk W gt k E X cs) {r : Expr → Option Tgt} (hr : ∀ e q, r e = some q → PG X e (tG W q.1 q.2)) {e : Expr} {q : Tgt} (h : tgT r cs e = some q) : PG X e (tG W q.1 q.2) := by
  cases e with
  | Tuple es kk pos =>
    obtain ⟨q', h1, h2⟩ := Option.map_eq_some_iff.mp (show (tgs r es).map (fun q => ((q.1, asgT es.length q.2) : Tgt)) = some q from h)
    subst h2
    obtain ⟨p1, p2, p3⟩ := tgs_ok c hr h1
    exact dg_tup c.K c.calm p1 p2 p3
  | _ => exact tgN_ok c h
theorem tgF_ok (c : CxOk W gt k E X cs) {e : Expr} {q : Tgt} (h : tgF cs e = some q) : PG X e (tG W q.1 q.2) :=
  tgT_ok c (fun e q h => tgT_ok c (fun e q h => tgT_ok c (fun e q h => by cases h) h) h) h
end
end TL
end
end

-- text TlQ
section
set_option maxHeartbeats 4000000
set_option autoImplicit false
noncomputable section
namespace TL
open PySem PySem.Spec L2
open PyProof.Rows hiding St
structure Cmp where
  e : Cs → Expr → Ev → Mo D
  t : Cs → Expr → Ev → Mo Bool
def evs (r : Expr → Ev → Mo D) : List Expr → Ev → Mo (List D)
  | [] => fun _ => pure []
  | e :: es => fun env => do let a ← r e env; let as ← evs r es env; pure (a :: as)
def cmE (op : CmpOp) (fa fb : Ev → Mo D) (env : Ev) : Mo D := do let a ← fa env; let b ← fb env; cmF op a b
def chE (op op' : CmpOp) (fa fb fc : Ev → Mo D) (env : Ev) : Mo D := do let a ← fa env; let b ← fb env; chD (cmF op) (cmF op') a b (fc env)
def cpE (r : Expr → Ev → Mo D) (a : Expr) : List CmpOp → List Expr → Ev → Mo D
  | [op], [b] => if notSet b = true then cmE op (r a) (r b) else fun _ => Mo.fail
  | [op, op'], [b, c] => if notSet c = true then chE op op' (r a) (r b) (r c) else fun _ => Mo.fail
  | _, _ => fun _ => Mo.fail
def tstB (f : Ev → Mo D) (env : Ev) : Mo Bool := do let d ← f env; toB d
def andL (t : Expr → Ev → Mo Bool) : List Expr → Ev → Mo Bool
  | [] => fun _ => Mo.fail
  | [a] => t a
  | a :: b :: rest => fun env => andT (t a env) (andL t (b :: rest) env)
def orL (t : Expr → Ev → Mo Bool) : List Expr → Ev → Mo Bool
  | [] => fun _ => Mo.fail
  | [a] => t a
  | a :: b :: rest => fun env => orT (t a env) (orL t (b :: rest) env)
def andE (r : Expr → Ev → Mo D) : List Expr → Ev → Mo D
  | [] => fun _ => Mo.fail
  | [a] => r a
  | a :: b :: rest => fun env => andV (r a env) (andE r (b :: rest) env)
def orE (r : Expr → Ev → Mo D) : List Expr → Ev → Mo D
  | [] => fun _ => Mo.fail
  | [a] => r a
  | a :: b :: rest => fun env => orV (r a env) (orE r (b :: rest) env)
def notT (f : Ev → Mo Bool) (env : Ev) : Mo Bool := do let b ← f env; pure (!b)
def notE (f : Ev → Mo D) (env : Ev) : Mo D := do let d ← f env; let k ← truD d; pure (.bl (!k))
def truT (f : Ev → Mo D) (env : Ev) : Mo Bool := do let d ← f env; truD d
def iteM {α : Type} (fc : Ev → Mo Bool) (fa fb : Ev → Mo α) (env : Ev) : Mo α := do let k ← fc env; if k = true then fa env else fb env
/-- a test -/
def stT (r : Cmp) (cs : Cs) (e : Expr) : Ev → Mo Bool := match e with
  | .UnaryOp .Not a _ => notT (r.t cs a)
  | .BoolOp .And es _ => andL (r.t cs) es
  | .BoolOp .Or es _ => orL (r.t cs) es
  | .IfExp c a b _ => iteM (r.t cs c) (r.t cs a) (r.t cs b)
  | .Compare a ops bs _ => tstB (cpE (r.e cs) a ops bs)
  | e => truT (r.e cs e)
def Snd (gt : Gt) (W : Wd) (k : Nat) (r : Cmp) : Prop := ∀ (E : XK) (X : Cx) (cs : Cs), CxOk W gt k E X cs → (∀ e, PE X e (tE W E (r.e cs e))) ∧ ∀ e, PT X e (tT W E (r.t cs e))
section
variable {W : Wd} {X : Cx} {E : XK} {k : Nat} {gt : Gt} {cs : Cs} {r : Cmp}
theorem evs_ok {f : Expr → Ev → Mo D} (h : ∀ e, PE X e (tE W E (f e))) : ∀ {es : List Expr}, es.all notStar = true → PA X es (tA W E (evs f es))
  | [], _ => da_nil
  | e :: es, hs => by
    rw [List.all_cons, Bool.and_eq_true] at hs
    exact da_cons (h e) (evs_ok h hs.2) (star_cons hs.1)
theorem cpE_ok (c : CxOk W gt k E X cs) {f : Expr → Ev → Mo D} (h : ∀ e, PE X e (tE W E (f e))) {a : Expr} {ops : List CmpOp} {bs : List Expr} {pos : Pos} : PE X (.Compare a ops bs pos) (tE W E (cpE f a ops bs)) := by
  unfold cpE
  split
  · refine iteE fun q => ?_
    obtain ⟨r, h1, h2⟩ := cmF_ok c ‹CmpOp›
    exact de_cmp h1 h2 (h _) (h _) (no_marks q)
  · refine iteE fun q => ?_
    rename_i op op' b d
    obtain ⟨r, h1, h2⟩ := cmF_ok c op
    obtain ⟨r', h3, h4⟩ := cmF_ok c op'
    exact de_chain h1 h3 h2 h4 (h _) (h _) (h _) (no_last q)
  · exact pe_no
theorem cpT_ok (c : CxOk W gt k E X cs) {f : Expr → Ev → Mo D} (h : ∀ e, PE X e (tE W E (f e))) {a : Expr} {ops : List CmpOp} {bs : List Expr} {pos : Pos} : PT X (.Compare a ops bs pos) (tT W E (tstB (cpE f a ops bs))) := by
  have no : ∀ e, PT X e (tT W E (tstB fun _ => Mo.fail)) := fun e => ⟨fun pins s σ H Q I ⟨_, _, _, _, p⟩ => p.elim⟩
  unfold cpE
  split
  · by_cases q : notSet ‹Expr› = true
    · rw [if_pos q]
      obtain ⟨r, h1, h2⟩ := cmF_ok c ‹CmpOp›
      exact dt_cmp h1 h2 (h _) (h _) (no_marks q)
    · rw [if_neg q]; exact no _
  · rename_i op op' b d
    by_cases q : notSet d = true
    · rw [if_pos q]
      obtain ⟨r, h1, h2⟩ := cmF_ok c op
      obtain ⟨r', h3, h4⟩ := cmF_ok c op'
      exact dt_chain h1 h3 h2 h4 (h _) (h _) (h _) (no_last q)
    · rw [if_neg q]; exact no _
  · exact no _
theorem andL_ok {f : Expr → Ev → Mo Bool} (h : ∀ e, PT X e (tT W E (f e))) {pos : Pos} : ∀ {es : List Expr}, PW X (.BoolOp .And es pos) (tT W E (andL f es))
  | [] => ⟨fun wh pins s σ H Q I ⟨_, _, _, _, p⟩ => p.elim⟩
  | [a] => dw_and1 (h a)
  | a :: b :: rest => dw_and (h a) (andL_ok h)
theorem orL_ok {f : Expr → Ev → Mo Bool} (h : ∀ e, PT X e (tT W E (f e))) {pos : Pos} : ∀ {es : List Expr}, PW X (.BoolOp .Or es pos) (tT W E (orL f es))
  | [] => ⟨fun wh pins s σ H Q I ⟨_, _, _, _, p⟩ => p.elim⟩
  | [a] => dw_or1 (h a)
  | a :: b :: rest => dw_or (h a) (orL_ok h)
theorem andE_ok (c : CxOk W gt k E X cs) {f : Expr → Ev → Mo D} (h : ∀ e, PE X e (tE W E (f e))) {pos : Pos} : ∀ {es : List Expr}, PE X (.BoolOp .And es pos) (tE W E (andE f es))
  | [] => pe_no
  | [a] => de_one (h a)
  | a :: b :: rest => de_and c.K (h a) (andE_ok c h)
theorem orE_ok (c : CxOk W gt k E X cs) {f : Expr → Ev → Mo D} (h : ∀ e, PE X e (tE W E (f e))) {pos : Pos} : ∀ {es : List Expr}, PE X (.BoolOp .Or es pos) (tE W E (orE f es))
  | [] => pe_no
  | [a] => de_one (h a)
  | a :: b :: rest => de_or c.K (h a) (orE_ok c h)
theorem stT_ok (c : CxOk W gt k E X cs) (he : ∀ e, PE X e (tE W E (r.e cs e))) (ht : ∀ e, PT X e (tT W E (r.t cs e))) (e : Expr) : PT X e (tT W E (stT r cs e)) := by
  have tr : ∀ e, plainT e = true → PT X e (tT W E (truT (r.e cs e))) := fun e h => dt_truth c.K (he e) (plain_truth h)
  cases e with
  | UnaryOp op a pos => cases op with
    | Not => exact dt_not (ht a)
    | _ => exact tr _ rfl
  | BoolOp op es pos => cases op with
    | And => exact (andL_ok ht).pt
    | Or => exact (orL_ok ht).pt
  | IfExp c a b pos => exact dt_ifExp (ht c) (ht a) (ht b)
  | Compare a ops bs pos => exact cpT_ok c he
  | _ => exact tr _ rfl
end
end TL
end
end

-- text TlR
section
set_option maxHeartbeats 4000000
set_option autoImplicit false
noncomputable section
namespace TL
open PySem PySem.Spec L2
open PyProof.Rows hiding St
/-! ### calls -/
def kwN : List Keyword → Option (List Str)
  | [] => some []
  | ⟨some x, _, _⟩ :: r => (kwN r).map (x :: ·)
  | _ => none
theorem kwN_ok {env : Env} {pos : Pos} : ∀ {kws : List Keyword} {ks : List Str}, kwN kws = some ks → (backToKw pos (keywordEach kws env)).all (·.1.isSome) = true ∧ (backToKw pos (keywordEach kws env)).filterMap (·.1) = ks ∧ (backToKw pos (keywordEach kws env)).any (·.1.isNone) = false
  | [], _, h => by cases h; exact ⟨rfl, rfl, rfl⟩
  | ⟨some x, v, p⟩ :: r, _, h => by
    obtain ⟨ks, h1, h2⟩ := Option.map_eq_some_iff.mp h
    subst h2
    obtain ⟨i1, i2, i3⟩ := kwN_ok (env := env) (pos := pos) h1
    refine ⟨?_, ?_, ?_⟩
    · show (true && (backToKw pos (keywordEach r env)).all (·.1.isSome)) = true
      rw [i1] <;> rfl
    · show x :: (backToKw pos (keywordEach r env)).filterMap (·.1) = _
      rw [i2]
    · show (false || (backToKw pos (keywordEach r env)).any (·.1.isNone)) = false
      rw [i3] <;> rfl
  | ⟨none, _, _⟩ :: _, _, h => by cases h
def kvs (r : Expr → Ev → Mo D) : List Keyword → Ev → Mo (List D)
  | [] => fun _ => pure []
  | q :: es => fun env => do let a ← r q.value env; let as ← kvs r es env; pure (a :: as)
def btF (x : Str) : Option (List D → Mo D) :=
  if x = "len" then some lenD else if x = "abs" then some absD else if x = "min" then some min2D else if x = "max" then some max2D else if x = "all" then some allD else if x = "any" then some anyD
  else if x = "sum" then some sumD else if x = "sorted" then some sortedD else if x = "int" then some intD else if x = "tuple" then some tupleD else if x = "list" then some listD else none
/-- a builtin type's name -/
def tyF (x : Str) : Option String :=
  if x = "int" then some "int" else if x = "bool" then some "bool" else if x = "str" then some "str" else if x = "tuple" then some "tuple" else if x = "list" then some "list" else if x = "dict" then some "dict" else none
def pickKw (f : FnE) (n : Nat) (ks : List Str) : Option (List Nat) := (f.kws.find? fun q => decide (q.1 = n) && decide (q.2.1 = ks)).map (·.2.2)
def callE (f : List D → Mo D) (fs : Ev → Mo (List D)) (env : Ev) : Mo D := do let as ← fs env; f as
def kwE (n m : Nat) (ix : List Nat) (run : List D → Mo D) (fs gs : Ev → Mo (List D)) (env : Ev) : Mo D := do let as ← fs env; let bs ← gs env; kwRun n m ix run as bs
def kw0E (m : Nat) (ix : List Nat) (run : List D → Mo D) (gs : Ev → Mo (List D)) (env : Ev) : Mo D := do let bs ← gs env; kwRun 0 m ix run [] bs
def isiE (T : String) (fe : Ev → Mo D) (env : Ev) : Mo D := do let d ← fe env; Mo.of ((isiO T d).map D.bl)
def joinE (fo fe : Ev → Mo D) (env : Ev) : Mo D := do let s ← fo env; joinD s (fe env)
def caOwn (r : Expr → Ev → Mo D) (f : FnE) (args : List Expr) (kws : List Keyword) : Ev → Mo D := match kws with
  | [] => (match args with
    | [] => fun _ => Mo.fail
    | e :: es => callE (runN f.n f.run) (evs r (e :: es)))
  | q :: qs => (match kwN (q :: qs) with
    | some ks => (match pickKw f args.length ks with
      | some ix => (match args with
        | [] => kw0E ks.length ix f.run (kvs r (q :: qs))
        | e :: es => kwE args.length ks.length ix f.run (evs r (e :: es)) (kvs r (q :: qs)))
      | none => fun _ => Mo.fail)
    | none => fun _ => Mo.fail)
def gloF (gt : Gt) (cs : Cs) (x : Str) : Bool := nmB x && gloB cs.sc x && decide (x ∈ gt.free)
/-- isinstance(x, (S, T)) -/
def isi2O (S T : String) (d : D) : Option Bool := match isiO S d with
  | some true => some true
  | some false => isiO T d
  | none => none
def isi2E (S T : String) (fe : Ev → Mo D) (env : Ev) : Mo D := do let d ← fe env; Mo.of ((isi2O S T d).map D.bl)
def isiF (gt : Gt) (cs : Cs) (r : Expr → Ev → Mo D) : List Expr → Ev → Mo D
  | [e, .Name y _] => if gloF gt cs y = true then (match tyF y with
    | some T => isiE T (r e)
    | none => fun _ => Mo.fail) else fun _ => Mo.fail
  | [e, .Tuple [.Name y _, .Name z _] _ _] => if (gloF gt cs y && gloF gt cs z) = true then (match tyF y, tyF z with
    | some S, some T => isi2E S T (r e)
    | _, _ => fun _ => Mo.fail) else fun _ => Mo.fail
  | _ => fun _ => Mo.fail
def caBlt (gt : Gt) (cs : Cs) (r : Expr → Ev → Mo D) (x : Str) (args : List Expr) : Ev → Mo D :=
  if x = "isinstance" then isiF gt cs r args else (match btF x, args with
    | some f, e :: es => callE f (evs r (e :: es))
    | _, _ => fun _ => Mo.fail)
def caName (gt : Gt) (cs : Cs) (r : Expr → Ev → Mo D) (x : Str) (args : List Expr) (kws : List Keyword) : Ev → Mo D :=
  if (nmB x && gloB cs.sc x && args.all notStar) = true then (match gt.fns.lookup x with
    | some f => caOwn r f args kws
    | none => (match gt.blts.lookup x, args, kws with
      | some i, e :: es, [] => if i = "math.gcd" then callE gcdD (evs r (e :: es)) else fun _ => Mo.fail
      | some _, _, _ => fun _ => Mo.fail
      | none, args, [] => if x ∈ gt.free then caBlt gt cs r x args else fun _ => Mo.fail
      | none, _, _ => fun _ => Mo.fail))
  else fun _ => Mo.fail
def constB : Expr → Bool
  | .Constant .. => true
  | _ => false
def caJoin (r : Expr → Ev → Mo D) (o : Expr) (m : Str) (args : List Expr) (b : Bool) : Ev → Mo D := match args with
  | [e] => if (decide (m = "join") && constB o && notStar e && b) = true then joinE (r o) (r e) else fun _ => Mo.fail
  | _ => fun _ => Mo.fail
section
variable {W : Wd} {X : Cx} {E : XK} {k : Nat} {gt : Gt} {cs : Cs} {r : Expr → Ev → Mo D}
theorem kvs_ok (h : ∀ e, PE X e (tE W E (r e))) : ∀ {kws : List Keyword}, PK X kws (tA W E (kvs r kws))
  | [] => dk_nil
  | ⟨nm, v, p⟩ :: es => dk_cons (h v) (kvs_ok h)
theorem caOwn_ok (c : CxOk W gt k E X cs) (h : ∀ e, PE X e (tE W E (r e))) {x : Str} {f : FnE} (hf : gt.fns.lookup x = some f) {args : List Expr} {kws : List Keyword} {p pos : Pos} (hx : nmB x = true) (hg : gloB cs.sc x = true) (hs : args.all notStar = true) :
    PE X (.Call (.Name x p) args kws pos) (tE W E (caOwn r f args kws)) := by
  obtain ⟨a, fd, ps, j, hj, F, hm, hk, hb, hq⟩ := c.gl.fns x f hf
  obtain ⟨d1, d2, d3⟩ := nmB_ok hx
  have gl : Gl X x := gloB_ok (by rw [c.sc]; exact hg)
  have rm := c.room.mono hj
  unfold caOwn
  cases kws with
  | nil => cases args with
    | nil => exact pe_no
    | cons e es =>
      have hs' := hs
      rw [List.all_cons, Bool.and_eq_true] at hs'
      exact de_call F rm gl hm hk hb c.ps (evs_ok h hs) d1 (star_cons hs'.1) (star_any hs'.2)
  | cons q qs =>
    cases e1 : kwN (q :: qs) with
    | none => simp only [e1]; exact pe_no
    | some ks =>
      obtain ⟨k1, k2, k3⟩ := kwN_ok (env := X.env) (pos := pos) e1
      cases e2 : pickKw f args.length ks with
      | none => simp only [e1, e2]; exact pe_no
      | some ix =>
        simp only [e1, e2]
        obtain ⟨q', h1, h2⟩ := Option.map_eq_some_iff.mp e2
        have h3 := List.mem_of_find?_eq_some h1
        have h4 := List.find?_some h1
        simp only [Bool.and_eq_true, decide_eq_true_eq] at h4
        obtain ⟨kb, hl⟩ := hq q' h3
        subst h2
        rw [h4.1, h4.2] at kb
        rw [← hl] at F
        cases args with
        | nil => exact de_callK0 F rm gl hm hk kb c.ps (kvs_ok h) k1 k2 d1 (by rw [k3] <;> rfl)
        | cons e es =>
          have hs' := hs
          rw [List.all_cons, Bool.and_eq_true] at hs'
          exact de_callK F rm gl hm hk kb c.ps (evs_ok h hs) (kvs_ok h) k1 k2 d1 (star_cons hs'.1) (by rw [star_any hs, k3] <;> rfl)
theorem gloF_ok (c : CxOk W gt k E X cs) {x : Str} (h : gloF gt cs x = true) : Gl X x ∧ X.mg x = none ∧ (x == ("__debug__" : Str)) = false ∧ x ≠ "__name__" := by
  unfold gloF at h
  rw [Bool.and_eq_true, Bool.and_eq_true, decide_eq_true_eq] at h
  obtain ⟨d1, d2, d3⟩ := nmB_ok h.1.1
  exact ⟨gloB_ok (by rw [c.sc]; exact h.1.2), c.gl.free x h.2, d1, d3⟩
theorem tyF_ok {x : Str} {T : String} (h : tyF x = some T) : bootBuiltins x = some (.type T) := by
  unfold tyF at h
  repeat' (split at h)
  all_goals first
    | cases h; done
    | (cases h; subst_vars; decide +kernel)
theorem de_isi2 {S T : String} {x y z : Str} {p q q2 pos pos2 : Pos} {e : Expr} {x1} {fe : Ev → Mo D} (hK : X.K = W.K) (hg : Gl X x) (hm : X.mg x = none) (hv : bootBuiltins x = some (.builtin "isinstance"))
    (hgS : Gl X y) (hmS : X.mg y = none) (hvS : bootBuiltins y = some (.type S)) (hnS : y ≠ "__name__") (hdbS : (y == ("__debug__" : Str)) = false)
    (hgT : Gl X z) (hmT : X.mg z = none) (hvT : bootBuiltins z = some (.type T)) (hnT : z ≠ "__name__") (hdbT : (z == ("__debug__" : Str)) = false)
    (he : PE X e (tE W E fe)) (hn : x ≠ "__name__") (hdb : (x == ("__debug__" : Str)) = false) (hs : starEach [e, .Tuple [.Name y q, .Name z q2] x1 pos2] X.env = (false, eval e X.env) :: starEach [.Tuple [.Name y q, .Name z q2] x1 pos2] X.env) :
    PE X (.Call (.Name x p) [e, .Tuple [.Name y q, .Name z q2] x1 pos2] [] pos) (tE W E (isi2E S T fe)) :=
  (pe_callB call_isiT hg hm hv (pa_cons he (pa_cons (pe_tup (pa_cons (pe_bltn hgS hmS hvS (v := .ty S) rfl hnS hdbS) (pa_cons (pe_bltn hgT hmT hvT (v := .ty T) rfl hnT hdbT) pa_nil (by rfl)) (by rfl))) pa_nil (by rfl)) hs) hn hdb hs (by rfl)).imp fun σ H Q ⟨F, g, env, s, p⟩ => ⟨F, g, env, s, p.bnd fun d F1 g1 H1 x1 p1 v rv => by
    obtain ⟨d', e, q⟩ := PR.ofx p1
    obtain ⟨b, e1, e2⟩ := Option.map_eq_some_iff.mp e
    subst e2
    refine ⟨by show (2 : Nat) ≤ sizeLine; decide +kernel, fun l hl => ?_⟩
    have y1 := Ext.newT (W := W) (g := g1) (o := .tup [.ty S, .ty T]) x1.wf hl
    have rv' := rv.ext y1 x1.wf
    have fin : ∀ t, tyN d = some t → PySem.W.kitAny X.K (.type t) [.type S, .type T] = some b → rIsiT X.K [v, .ref l] (upd H1 l (.tup [.ty S, .ty T])) Q := fun t e3 e4 =>
      ⟨v, l, [.ty S, .ty T], .type t, [.type S, .type T], b, rfl, upd_same, .cons (.ty S) (.cons (.ty T) .nil), by rw [hK]; exact tyN_rep e3 rv', e4, q _ _ y1 _ (.bl b)⟩
    unfold isi2O at e1
    cases e3 : isiO S d with
    | none => rw [e3] at e1; cases e1
    | some bS =>
      obtain ⟨t, e4, e5⟩ := Option.bind_eq_some_iff.mp e3
      rw [e3] at e1
      cases bS with
      | true =>
        cases e1
        exact fin t e4 (kitAny_cons (kit_ty e5) (fun z => by cases z) (fun _ => rfl))
      | false =>
        obtain ⟨t', e6, e7⟩ := Option.bind_eq_some_iff.mp (show isiO T d = some b from e1)
        rw [e4] at e6
        cases e6
        exact fin t e4 (kitAny_cons (kit_ty e5) (fun _ => kitAny_cons (kit_ty e7) (fun z => by rw [z] <;> rfl) (fun z => z)) (fun z => by cases z))⟩
theorem isiF_ok (c : CxOk W gt k E X cs) (h : ∀ e, PE X e (tE W E (r e))) {x : Str} {args : List Expr} {p pos : Pos} (hx : x = "isinstance") (hg : Gl X x) (hm : X.mg x = none) (hs : args.all notStar = true) :
    PE X (.Call (.Name x p) args [] pos) (tE W E (isiF gt cs r args)) := by
  unfold isiF
  split
  · rename_i e y q
    refine iteE fun g => ?_
    obtain ⟨g1, g2, g3, g4⟩ := gloF_ok c g
    cases e1 : tyF y with
    | none => exact pe_no
    | some T =>
      rw [List.all_cons, Bool.and_eq_true] at hs
      exact de_isi c.K hg hm (by rw [hx]; decide +kernel) g1 g2 (tyF_ok e1) (h e) (by rw [hx]; decide) (by rw [hx]; decide) g4 g3 (star_cons hs.1)
  · rename_i e y q z q2 x1 pos2
    refine iteE fun g => ?_
    rw [Bool.and_eq_true] at g
    obtain ⟨g1, g2, g3, g4⟩ := gloF_ok c g.1
    obtain ⟨f1, f2, f3, f4⟩ := gloF_ok c g.2
    cases e1 : tyF y with
    | none => exact pe_no
    | some S => cases e2 : tyF z with
      | none => exact pe_no
      | some T =>
        rw [List.all_cons, Bool.and_eq_true] at hs
        exact de_isi2 c.K hg hm (by rw [hx]; decide +kernel) g1 g2 (tyF_ok e1) g4 g3 f1 f2 (tyF_ok e2) f4 f3 (h e) (by rw [hx]; decide) (by rw [hx]; decide) (star_cons hs.1)
  · exact pe_no
theorem caBlt_ok (c : CxOk W gt k E X cs) (h : ∀ e, PE X e (tE W E (r e))) {x : Str} {args : List Expr} {p pos : Pos} (hg : Gl X x) (hm : X.mg x = none) (hd : (x == ("__debug__" : Str)) = false) (hn : x ≠ "__name__") (hs : args.all notStar = true) :
    PE X (.Call (.Name x p) args [] pos) (tE W E (caBlt gt cs r x args)) := by
  unfold caBlt
  by_cases hi : x = "isinstance"
  · rw [if_pos hi]
    exact isiF_ok c h hi hg hm hs
  · rw [if_neg hi]
    cases e1 : btF x with
    | none => exact pe_no
    | some f => cases args with
      | nil => exact pe_no
      | cons e es =>
        have hs' := hs
        rw [List.all_cons, Bool.and_eq_true] at hs'
        have s1 := star_cons (es := es) (env := X.env) hs'.1
        have s2 := star_any (env := X.env) (pos := pos) hs'.2
        have hA := evs_ok h hs
        have hu := units_ok c
        have bl : ∀ {id : String} {r : List V → Hp → VK → Prop}, CallR X (.builtin id) r → AdqL W E f r → bootBuiltins x = some (.builtin id) → PE X (.Call (.Name x p) (e :: es) [] pos) (tE W E (callE f (evs _ (e :: es)))) := fun hc ha hv => de_callB hc ha hg hm hv hA hn hd s1 s2
        have ty : ∀ {id : String} {r : List V → Hp → VK → Prop}, CallR X (.type id) r → AdqL W E f r → bootBuiltins x = some (.type id) → PE X (.Call (.Name x p) (e :: es) [] pos) (tE W E (callE f (evs _ (e :: es)))) := fun hc ha hv => de_callTy hc ha hg hm hv hA hn hd s1 s2
        show PE X _ (tE W E (callE f (evs r (e :: es))))
        unfold btF at e1
        by_cases c1 : x = "len"
        · rw [if_pos c1] at e1; cases e1; exact bl call_len (c.K ▸ adq_len) (by rw [c1]; decide +kernel)
        rw [if_neg c1] at e1
        by_cases c1 : x = "abs"
        · rw [if_pos c1] at e1; cases e1; exact bl call_abs adq_abs (by rw [c1]; decide +kernel)
        rw [if_neg c1] at e1
        by_cases c1 : x = "min"
        · rw [if_pos c1] at e1; cases e1; exact bl (call_min2 c.calm) adq_min2 (by rw [c1]; decide +kernel)
        rw [if_neg c1] at e1
        by_cases c1 : x = "max"
        · rw [if_pos c1] at e1; cases e1; exact bl (call_max2 c.calm) adq_max2 (by rw [c1]; decide +kernel)
        rw [if_neg c1] at e1
        by_cases c1 : x = "all"
        · rw [if_pos c1] at e1; cases e1; exact bl (cr_all c.calm) (c.K ▸ adq_all) (by rw [c1]; decide +kernel)
        rw [if_neg c1] at e1
        by_cases c1 : x = "any"
        · rw [if_pos c1] at e1; cases e1; exact bl (cr_any c.calm) (c.K ▸ adq_any) (by rw [c1]; decide +kernel)
        rw [if_neg c1] at e1
        by_cases c1 : x = "sum"
        · rw [if_pos c1] at e1; cases e1; exact bl (cr_sum c.calm) (c.K ▸ adq_sum) (by rw [c1]; decide +kernel)
        rw [if_neg c1] at e1
        by_cases c1 : x = "sorted"
        · rw [if_pos c1] at e1; cases e1; exact bl (cr_sortedD hu) (c.K ▸ adq_sorted) (by rw [c1]; decide +kernel)
        rw [if_neg c1] at e1
        by_cases c1 : x = "int"
        · rw [if_pos c1] at e1; cases e1; exact ty call_int1 adq_int (by rw [c1]; decide +kernel)
        rw [if_neg c1] at e1
        by_cases c1 : x = "tuple"
        · rw [if_pos c1] at e1; cases e1; exact ty call_tuple_of (c.K ▸ adq_tuple) (by rw [c1]; decide +kernel)
        rw [if_neg c1] at e1
        by_cases c1 : x = "list"
        · rw [if_pos c1] at e1; cases e1; exact ty (call_listX c.calm) (c.K ▸ adq_list) (by rw [c1]; decide +kernel)
        rw [if_neg c1] at e1
        cases e1
theorem caName_ok (c : CxOk W gt k E X cs) (h : ∀ e, PE X e (tE W E (r e))) {x : Str} {args : List Expr} {kws : List Keyword} {p pos : Pos} : PE X (.Call (.Name x p) args kws pos) (tE W E (caName gt cs r x args kws)) := by
  unfold caName
  refine iteE fun q => ?_
  rw [Bool.and_eq_true, Bool.and_eq_true] at q
  obtain ⟨d1, d2, d3⟩ := nmB_ok q.1.1
  have gl : Gl X x := gloB_ok (by rw [c.sc]; exact q.1.2)
  cases e1 : gt.fns.lookup x with
  | some f => exact caOwn_ok c h e1 q.1.1 q.1.2 q.2
  | none =>
    cases e2 : gt.blts.lookup x with
    | some i => cases args with
      | nil => cases kws <;> exact pe_no
      | cons e es => cases kws with
        | cons _ _ => exact pe_no
        | nil =>
          by_cases hi : i = "math.gcd"
          · show PE X _ (tE W E (if i = "math.gcd" then _ else _))
            rw [if_pos hi]
            have hs' := q.2
            rw [List.all_cons, Bool.and_eq_true] at hs'
            exact de_callBf (hi ▸ cr_gcd) adq_gcd gl (c.gl.blts x i e2) (evs_ok h q.2) d1 (star_cons hs'.1) (star_any hs'.2)
          · show PE X _ (tE W E (if i = "math.gcd" then _ else _))
            rw [if_neg hi]
            exact pe_no
    | none => cases kws with
      | cons _ _ => cases args <;> exact pe_no
      | nil =>
        have go : PE X (.Call (.Name x p) args [] pos) (tE W E (if x ∈ gt.free then caBlt gt cs r x args else fun _ => Mo.fail)) := by
          by_cases hf : x ∈ gt.free
          · rw [if_pos hf]
            exact caBlt_ok c h gl (c.gl.free x hf) d1 d3 q.2
          · rw [if_neg hf]
            exact pe_no
        cases args <;> exact go
theorem caJoin_ok (h : ∀ e, PE X e (tE W E (r e))) {o : Expr} {m : Str} {args : List Expr} {apos pos : Pos} : PE X (.Call (.Attribute o m apos) args [] pos) (tE W E (caJoin r o m args (apos.endLine == pos.line))) := by
  unfold caJoin
  split
  · refine iteE fun q => ?_
    rw [Bool.and_eq_true, Bool.and_eq_true, Bool.and_eq_true, decide_eq_true_eq] at q
    obtain ⟨⟨⟨rfl, q2⟩, q3⟩, q4⟩ := q
    refine de_join (h o) (h _) (star_cons q3) ?_ q4
    cases o <;> first | rfl | cases q2
  · exact pe_no
end
end TL
end
end

-- text TlS
section
set_option maxHeartbeats 4000000
set_option autoImplicit false
noncomputable section
namespace TL
open PySem PySem.Spec L2
open PyProof.Rows hiding St
/-! ### what is walked, comprehensions -/
def oE (r : Expr → Ev → Mo D) : Option Expr → Ev → Mo (Option Int)
  | none => fun _ => pure none
  | some e => fun env => do let a ← r e env; Mo.of (intO a)
def slE (fe : Ev → Mo D) (fl fh : Ev → Mo (Option Int)) (env : Ev) : Mo D := do let a ← fe env; let l ← fl env; let u ← fh env; slD a l u
def backE (fe : Ev → Mo D) (env : Ev) : Mo D := do let d ← fe env; backD d
def ixE (fa fb : Ev → Mo D) (env : Ev) : Mo D := do let a ← fa env; let b ← fb env; ixD a b
def isOne : Expr → Bool
  | .UnaryOp .USub (.Constant (.int i) _ _) _ => decide (i = 1)
  | _ => false
def subE (r : Expr → Ev → Mo D) (a : Expr) : Expr → Ev → Mo D
  | .Slice lo hi none _ => slE (r a) (oE r lo) (oE r hi)
  | .Slice none none (some e) _ => if isOne e = true then backE (r a) else fun _ => Mo.fail
  | .Slice .. => fun _ => Mo.fail
  | b => ixE (r a) (r b)
def seqI (fe : Ev → Mo D) (env : Ev) : Mo (List D) := do let d ← fe env; itemsD d
def rngI (n : Nat) (fs : Ev → Mo (List D)) (env : Ev) : Mo (List D) := do let as ← fs env; rngD n as
def zipI (fs : Ev → Mo (List D)) (env : Ev) : Mo (List D) := do let as ← fs env; zipD as
def enumI (fs : Ev → Mo (List D)) (env : Ev) : Mo (List D) := do let as ← fs env; enumD as
def isTup : Expr → Bool
  | .Tuple .. => true
  | _ => false
def itC (gt : Gt) (cs : Cs) (r : Expr → Ev → Mo D) (tg : Expr) (x : Str) (args : List Expr) (other : Ev → Mo (List D)) : Ev → Mo (List D) :=
  if (gloF gt cs x && args.all notStar) = true then
    (if x = "range" then (match args with
      | [a] => rngI 1 (evs r [a])
      | [a, b] => rngI 2 (evs r [a, b])
      | _ => fun _ => Mo.fail)
    else if x = "zip" then (match args with
      | [a, b] => if isTup tg = true then zipI (evs r [a, b]) else fun _ => Mo.fail
      | _ => fun _ => Mo.fail)
    else if x = "enumerate" then (match args with
      | [a] => if isTup tg = true then enumI (evs r [a]) else fun _ => Mo.fail
      | _ => fun _ => Mo.fail)
    else other)
  else other
def itF (gt : Gt) (cs : Cs) (r : Expr → Ev → Mo D) (tg e : Expr) : Ev → Mo (List D) := match e with
  | .Call (.Name x _) args [] _ => itC gt cs r tg x args (seqI (r e))
  | _ => seqI (r e)
def ownB (N : List Str) (scope : Scope) : List (Str × Nat) := scope.names.filterMap fun y => match y.2 with
  | .local => (findI y.1 N).map fun i => (y.1, i)
  | .cell => (findI y.1 N).map fun i => (y.1, i)
  | _ => none
def blkS (cs : Cs) (scope : Scope) : Cs := { N := cs.N, sc := relS scope cs.sc, blk := some scope, hint := cs.hint, code := cs.code }
def ifsF (t : Expr → Ev → Mo Bool) : List Expr → Option (Ev → Mo Bool)
  | [] => some fun _ => pure true
  | [c] => some (t c)
  | _ => none
def lcF (gt : Gt) (r : Cmp) (cs : Cs) (elt : Expr) (c : Comprehension) (scope : Scope) : Ev → Mo (List D) :=
  match tgF (blkS cs scope) c.target, ifsF (r.t (blkS cs scope)) c.ifs with
  | some q, some tt => if (decide (c.is_async = 0) && blkC cs.N cs.sc scope (ownB cs.N scope) && (q.1.all fun i => decide (i ∈ (ownB cs.N scope).map (·.2))) && notSet c.iter) = true then
      fun env => lcM q.2 tt (r.e (blkS cs scope) elt) ((ownB cs.N scope).map (·.2)) (itF gt cs (r.e cs) c.target c.iter env) env
    else fun _ => Mo.fail
  | _, _ => fun _ => Mo.fail
def lstE (f : Ev → Mo (List D)) (env : Ev) : Mo D := do let ys ← f env; pure (.lst ys)
section
variable {W : Wd} {X : Cx} {E : XK} {k : Nat} {gt : Gt} {cs : Cs}
theorem oE_ok {r : Expr → Ev → Mo D} (h : ∀ e, PE X e (tE W E (r e))) (o : Option Expr) : PO X o (tO W E (oE r o)) := by
  cases o with
  | none => exact do_none
  | some e => exact do_some (h e)
theorem subE_ok (c : CxOk W gt k E X cs) {r : Expr → Ev → Mo D} (h : ∀ e, PE X e (tE W E (r e))) {a b : Expr} {pos : Pos} : PE X (.Subscript a b pos) (tE W E (subE r a b)) := by
  have ix : ∀ b, notSlice b = true → PE X (.Subscript a b pos) (tE W E (ixE (r a) (r b))) := fun b hb => de_ix c.K (h a) (h b) (plain_ix hb)
  cases b with
  | Slice lo hi st p => cases st with
    | none => exact de_slice c.K (h a) (oE_ok h lo) (oE_ok h hi)
    | some e => cases lo with
      | some _ => exact pe_no
      | none => cases hi with
        | some _ => exact pe_no
        | none =>
          refine iteE fun q => ?_
          unfold isOne at q
          split at q
          · rw [decide_eq_true_eq] at q
            subst q
            exact de_back c.K (h a)
          · cases q
  | _ => exact ix _ rfl
theorem itF_ok (c : CxOk W gt k E X cs) {r : Expr → Ev → Mo D} (h : ∀ e, PE X e (tE W E (r e))) {tg e : Expr} : PI X tg e (tI W E (itF gt cs r tg e)) := by
  have sq : PI X tg e (tI W E (seqI (r e))) := di_seq c.K (h e)
  unfold itF
  split
  · rename_i x p args pos
    unfold itC
    by_cases q : (gloF gt cs x && args.all notStar) = true
    · rw [if_pos q]
      rw [Bool.and_eq_true] at q
      obtain ⟨g1, g2, g3, g4⟩ := gloF_ok c q.1
      have hA := evs_ok h q.2
      by_cases c1 : x = "range"
      · rw [if_pos c1]
        subst c1
        split
        · have hs := q.2
          rw [List.all_cons, Bool.and_eq_true] at hs
          exact di_range1 g1 g2 hA (star_cons hs.1)
        · have hs := q.2
          rw [List.all_cons, List.all_cons, Bool.and_eq_true, Bool.and_eq_true] at hs
          exact di_range2 g1 g2 hA (by rw [star_cons hs.1, star_cons hs.2.1] <;> rfl) (star_cons hs.2.1)
        · exact pi_no
      rw [if_neg c1]
      by_cases c1 : x = "zip"
      · rw [if_pos c1]
        subst c1
        split
        · refine iteI fun ht => ?_
          have hs := q.2
          rw [List.all_cons, Bool.and_eq_true] at hs
          cases tg with
          | Tuple elts kk tpos => exact di_zip c.K g1 g2 hA (star_cons hs.1) (star_any hs.2)
          | _ => cases ht
        · exact pi_no
      rw [if_neg c1]
      by_cases c1 : x = "enumerate"
      · rw [if_pos c1]
        subst c1
        split
        · refine iteI fun ht => ?_
          have hs := q.2
          rw [List.all_cons, Bool.and_eq_true] at hs
          cases tg with
          | Tuple elts kk tpos => exact di_enum c.K g1 g2 hA (star_cons hs.1)
          | _ => cases ht
        · exact pi_no
      rw [if_neg c1]
      exact sq
    · rw [if_neg q]
      exact sq
  · exact sq
theorem cx_blk (c : CxOk W gt k E X cs) (s : Shared) (H : Hp) (scope : Scope) (C : Addr) (cl : List (Str × Addr)) (fp : List Addr) : CxOk W gt k XN (X.blk s H scope (compEnvC scope cl C X.env) fp) (blkS cs scope) where
  K := c.K
  mg := c.mg
  N := c.N
  nd := c.nd
  sc := by
    show relS scope X.env.scope = relS scope cs.sc
    rw [c.sc]
  calm := c.calm
  fn := fun x h => by
    have h : (decide ((relS scope cs.sc).names.lookup x = some .local) || (scope.names.lookup x == some .cell)) = true := h
    rcases Bool.or_eq_true_iff.mp h with h | h
    · exact .inr (by
        rw [← c.sc] at h
        exact of_decide_eq_true h)
    · exact .inl h
  room := c.room
  ps := passL
  gl := ⟨c.gl.fns, c.gl.vals, c.gl.excs, c.gl.free, c.gl.blts⟩
  cd := c.cd
/-- a comprehension's parts -/
theorem lcF_ok {r : Cmp} (hr : Snd gt W k r) (c : CxOk W gt k E X cs) {elt : Expr} {q : Comprehension} {scope : Scope} {P : (Ev → Mo (List D)) → Prop} (no : P fun _ => Mo.fail)
    (yes : ∀ (sl : List Nat) (ft : D → Ev → Option Ev) (tt : Ev → Mo Bool) (el : Ev → Mo D) (fi : Ev → Mo (List D)) (own : List (Str × Nat)), q = ⟨q.target, q.iter, q.ifs, 0⟩ → PI X q.target q.iter (tI W E fi) → BlkOk X.N X.env.scope scope own →
      (∀ (s : Shared) (H : Hp) (C : Addr) (cl : List (Str × Addr)) (fp : List Addr), PG (X.blk s H scope (compEnvC scope cl C X.env) fp) q.target (tG W sl ft)) → (∀ (s : Shared) (H : Hp) (C : Addr) (cl : List (Str × Addr)) (fp : List Addr), PTs (X.blk s H scope (compEnvC scope cl C X.env) fp) q.ifs (tT W XN tt)) →
      (∀ (s : Shared) (H : Hp) (C : Addr) (cl : List (Str × Addr)) (fp : List Addr), PE (X.blk s H scope (compEnvC scope cl C X.env) fp) elt (tE W XN el)) → (∀ x, foldedSetIterable q.iter X.env x = pure x) → (∀ j, j ∈ sl → j ∈ own.map (·.2)) →
      P fun env => lcM ft tt el (own.map (·.2)) (fi env) env) : P (lcF gt r cs elt q scope) := by
  unfold lcF
  split
  · rename_i q' tt e1 e2
    by_cases h : (decide (q.is_async = 0) && blkC cs.N cs.sc scope (ownB cs.N scope) && (q'.1.all fun i => decide (i ∈ (ownB cs.N scope).map (·.2))) && notSet q.iter) = true
    · rw [if_pos h]
      rw [Bool.and_eq_true, Bool.and_eq_true, Bool.and_eq_true, decide_eq_true_eq] at h
      obtain ⟨⟨⟨h1, h2⟩, h3⟩, h4⟩ := h
      refine yes q'.1 q'.2 tt _ _ _ ?_ (itF_ok c (hr E X cs c).1) (by rw [c.N, c.sc]; exact blkOk_by h2) (fun s H C cl fp => tgF_ok (cx_blk c s H scope C cl fp) e1) (fun s H C cl fp => ?_) (fun s H C cl fp => (hr XN _ _ (cx_blk c s H scope C cl fp)).1 elt) (not_folded h4) fun j hj => ?_
      · obtain ⟨a, b, d, f⟩ := q
        simp only at h1
        rw [h1]
      · have ht := (hr XN _ _ (cx_blk c s H scope C cl fp)).2
        unfold ifsF at e2
        split at e2
        · rename_i hi
          cases e2
          rw [hi]
          exact ⟨fun pins s σ H Q I ⟨F, g, env, st, p⟩ => pts_nil.run pins s σ H Q I (p F H (Ext.refl st.wf))⟩
        · rename_i d hi
          cases e2
          rw [hi]
          exact pts_one (ht d)
        · cases e2
      · exact of_decide_eq_true (List.all_eq_true.mp h3 j hj)
    · rw [if_neg h]
      exact no
  · exact no
end
/-! ### an expression -/
structure Hk where
  is : Expr → Bool
  f : Cmp → Cs → Expr → Ev → Mo D
def ctE : Const → Ev → Mo D
  | .int i => fun _ => pure (.int i)
  | .bool b => fun _ => pure (.bl b)
  | .none => fun _ => pure .non
  | .str s => fun _ => pure (.str s)
  | _ => fun _ => Mo.fail
def negE (fe : Ev → Mo D) (env : Ev) : Mo D := do let a ← fe env; negD a
def tupE (fs : Ev → Mo (List D)) (env : Ev) : Mo D := do let as ← fs env; mkTup as
def mlsE (fs : Ev → Mo (List D)) (env : Ev) : Mo D := do let as ← fs env; mkLst as
def stM (gt : Gt) (r : Cmp) (cs : Cs) (e : Expr) : Ev → Mo D := match e with
  | .Constant c _ _ => ctE c
  | .Name x _ => nmE gt cs x
  | .BinOp a op b _ => opE op (r.e cs a) (r.e cs b)
  | .UnaryOp .USub a _ => negE (r.e cs a)
  | .UnaryOp .Not a _ => notE (r.e cs a)
  | .BoolOp .And es _ => andE (r.e cs) es
  | .BoolOp .Or es _ => orE (r.e cs) es
  | .IfExp c a b _ => iteM (r.t cs c) (r.e cs a) (r.e cs b)
  | .Compare a ops bs _ => cpE (r.e cs) a ops bs
  | .Tuple es _ _ => if es.all notStar = true then tupE (evs (r.e cs) es) else fun _ => Mo.fail
  | .List es _ => if es.all notStar = true then mlsE (evs (r.e cs) es) else fun _ => Mo.fail
  | .Dict [] [] _ => fun _ => pure .dnil
  | .Subscript a b _ => subE (r.e cs) a b
  | .Call (.Name x _) args kws _ => caName gt cs (r.e cs) x args kws
  | .Call (.Attribute o m apos) args [] pos => caJoin (r.e cs) o m args (apos.endLine == pos.line)
  | .ListComp elt [c] scope _ => lstE (lcF gt r cs elt c scope)
  | _ => fun _ => Mo.fail
def stE (gt : Gt) (hk : Hk) (r : Cmp) (cs : Cs) (e : Expr) : Ev → Mo D := if hk.is e = true then hk.f r cs e else stM gt r cs e
def HkOk (gt : Gt) (W : Wd) (k : Nat) (hk : Hk) : Prop := ∀ r, Snd gt W k r → ∀ (E : XK) (X : Cx) (cs : Cs), CxOk W gt k E X cs → ∀ e, hk.is e = true → PE X e (tE W E (hk.f r cs e))
def cmp (gt : Gt) (hk : Hk) : Nat → Cmp
  | 0 => ⟨fun _ _ _ => Mo.fail, fun _ _ _ => Mo.fail⟩
  | n + 1 => ⟨stE gt hk (cmp gt hk n), stT (cmp gt hk n)⟩
section
variable {W : Wd} {k : Nat} {gt : Gt} {hk : Hk}
theorem stM_ok {r : Cmp} (hr : Snd gt W k r) {E : XK} {X : Cx} {cs : Cs} (c : CxOk W gt k E X cs) (e : Expr) : PE X e (tE W E (stM gt r cs e)) := by
  have he := (hr E X cs c).1
  have ht := (hr E X cs c).2
  unfold stM
  split
  · rename_i cc j pos
    cases cc with
    | int i => exact de_int
    | bool b => exact de_bl
    | none => exact de_non
    | str s => exact de_str
    | _ => exact pe_no
  · exact nmE_ok c _ _
  · exact opE_ok c (he _) (he _)
  · exact de_neg (he _)
  · exact de_not c.K (he _)
  · exact andE_ok c he
  · exact orE_ok c he
  · exact de_ifExp (ht _) (he _) (he _)
  · exact cpE_ok c he
  · exact iteE fun q => de_tup (evs_ok he q)
  · exact iteE fun q => de_lst (evs_ok he q)
  · exact de_dnil
  · exact subE_ok c he
  · exact caName_ok c he
  · exact caJoin_ok he
  · rename_i elt q scope pos
    refine lcF_ok hr c (P := fun f => PE X _ (tE W E (lstE f))) ?_ ?_
    · exact ⟨fun pins s σ H Q I ⟨_, _, _, _, p⟩ => p.elim⟩
    · intro sl ft tt el fi own h0 h1 h2 h3 h4 h5 h6 h7
      rw [h0]
      exact de_lc c.calm (by rw [c.N]; exact c.nd) h1 h2 h3 h4 h5 h6 h7
  · exact pe_no
theorem cmp_ok (hh : HkOk gt W k hk) : ∀ n, Snd gt W k (cmp gt hk n)
  | 0 => fun E X cs c => ⟨fun e => pe_no, fun e => pt_no⟩
  | n + 1 => fun E X cs c => ⟨fun e => by
      show PE X e (tE W E (stE gt hk (cmp gt hk n) cs e))
      unfold stE
      by_cases q : hk.is e = true
      · rw [if_pos q]
        exact hh _ (cmp_ok hh n) E X cs c e q
      · rw [if_neg q]
        exact stM_ok (cmp_ok hh n) c e, fun e => stT_ok c (cmp_ok hh n E X cs c).1 (cmp_ok hh n E X cs c).2 e⟩
end
end TL
end
end

-- text TlT
section
set_option maxHeartbeats 4000000
set_option autoImplicit false
noncomputable section
namespace TL
open PySem PySem.Spec L2
open PyProof.Rows hiding St
/-! ### more statements -/
def apE (i : Nat) (f : Ev → Mo D) (env : Ev) : Mo (Fl × Ev) := do
  let xs ← Mo.of (celO env i)
  let d ← f env
  if xs.length ≤ lim then pure (.nx, env.set i (.cel (xs ++ [d]))) else Mo.fail
def lstD (d : D) : Option (List D) := match d with
  | .lst ys => some ys
  | _ => none
def exE (i : Nat) (f : Ev → Mo D) (env : Ev) : Mo (Fl × Ev) := do
  let xs ← Mo.of (celO env i)
  let d ← f env
  let ys ← Mo.of (lstD d)
  if xs.length + ys.length ≤ lim then pure (.nx, env.set i (.cel (xs ++ ys))) else Mo.fail
def poE (i : Nat) (ft : D → Ev → Option Ev) (env : Ev) : Mo (Fl × Ev) := do
  let xs ← Mo.of (celO env i)
  let d ← Mo.of (xs[xs.length - 1]?)
  let env' ← Mo.of (ft d (env.set i (.cel xs.dropLast)))
  pure (.nx, env')
section
variable {W : Wd} {X : Cx} {E : XK} {e : En} {F F1 F2 : Fz} {g g1 g2 : G} {H H1 H2 : Hp} {env : Ev} {σ : St}
theorem RepL.dropLast {vs : List V} {ds : List D} (r : RepL W F H vs ds) : RepL W F H vs.dropLast ds.dropLast := by
  rw [List.dropLast_eq_take, List.dropLast_eq_take, r.length]
  exact r.take _
theorem ds_extend {i : Nat} {x : Str} {p1 apos pos pos' : Pos} {ex : Expr} {f : Ev → Mo D} (hN : X.N[i]? = some x) (hv : Vis X.env.scope x) (hd : (x == ("__debug__" : Str)) = false) (hcd : (x == ("__classdict__" : Str)) = false) (he : PE X ex (tE W E f))
    (hs : starEach [ex] X.env = (false, eval ex X.env) :: starEach [] X.env) (hline : (apos.endLine == pos.line) = true) :
    PS X (.Expr (.Call (.Attribute (.Name x p1) "extend" apos) [ex] [] pos) pos') (tS W E (exE i f)) :=
  (ps_expr (pe_bm PySem.F.plainAttrs_list PySem.F.slot_list_extend PySem.F.type_list_extend (show MtR X "list.extend" rExtend from mt_extend) (pe_var hN hv hd hcd) (pa_cons he pa_nil hs) (by rfl) (by rw [hs]; rfl) hline hs (by rfl)) (by rfl)).imp fun D' σ H ⟨e, F, g, env, s, p⟩ => by
    obtain ⟨xs, e1, p1⟩ := ss_of p
    obtain ⟨hi, a, vs, ha, hH, r, z, nf, nm⟩ := celO_at s.s e1
    refine ⟨.ref a, ha, .inl ⟨rfl, vs, .inl (.inl hH)⟩, F, g, env, s.s, ss_ev s p1 fun d F1 g1 H1 x1 s1 p2 v rv => ?_⟩
    obtain ⟨ys, e2, p3⟩ := ss_of p2
    obtain ⟨c, p4⟩ := pr_if p3
    clear p2 p3
    have h1 := x1.kp _ _ hH nm (fun _ z => by cases z)
    cases rv with
    | lst fb hb zb rb =>
      cases e2
      exact ⟨a, _, vs, _, rfl, rfl, h1, hb, by rw [r.length, rb.length]; exact lim_le c, pst_nx (s1.write hi ha h1 ((r.ext x1 s.s.wf).append rb) (by rw [List.length_append]; exact lim_le c)) p4⟩
    | _ => cases e2
theorem ds_pop {i : Nat} {x : Str} {tg : Expr} {p1 apos pos pos' : Pos} {sl : List Nat} {ft : D → Ev → Option Ev} (hN : X.N[i]? = some x) (hv : Vis X.env.scope x) (hd : (x == ("__debug__" : Str)) = false) (hcd : (x == ("__classdict__" : Str)) = false)
    (hg : PG X tg (tG W sl ft)) (h1 : (assignEach [tg] X.env).map (·.2) = [assign tg X.env]) (hline : (apos.endLine == pos.line) = true) :
    PS X (.Assign [tg] (.Call (.Attribute (.Name x p1) "pop" apos) [] [] pos) pos') (tS W E (poE i ft)) :=
  (ps_asg (pe_bm0 PySem.F.plainAttrs_list PySem.F.slot_list_pop PySem.F.type_list_pop (show MtR X "list.pop" rPop from mt_pop) (pe_var hN hv hd hcd) (by rfl) hline) hg (by cases tg <;> rfl) (by cases tg <;> rfl) h1).imp fun D' σ H ⟨e, F, g, env, s, p⟩ => by
    obtain ⟨xs, e1, p1⟩ := ss_of p
    obtain ⟨d, e2, p2⟩ := ss_of p1
    obtain ⟨env', e3, p3⟩ := ss_of p2
    obtain ⟨hi, a, vs, ha, hH, r, z, nf, nm⟩ := celO_at s.s e1
    obtain ⟨v, e4, rv⟩ := r.get e2
    have s1 := s.write hi ha hH r.dropLast (by rw [List.length_dropLast]; omega)
    exact ⟨.ref a, ha, .inl ⟨rfl, vs, .inl (.inl hH)⟩, a, vs, v, rfl, rfl, hH, by rw [r.length]; exact e4, F, g, _, d, env', s1.s, rep_write hH nf rv, e3, fun σ' s' _ k => pst_nx (s1.kc s' k) p3⟩
/-- x, y = [..], e: x goes on to change -/
def parC (i j : Nat) (fa : Ev → Mo (List D)) (fb : Ev → Mo D) (env : Ev) : Mo (Fl × Ev) := do
  let xs ← fa env
  let d ← fb env
  pure (.nx, (env.set i (.cel xs)).set j (.dat d))
theorem ds_parC {i j : Nat} {x y : Str} {a b : Expr} {px py pt pos : Pos} {kt k2 pt2} {fa : Ev → Mo (List D)} {fb : Ev → Mo D} (hc : X.calm = true) (hN : X.N.Nodup) (hi : X.N[i]? = some x) (hj : X.N[j]? = some y) (hij : i ≠ j)
    (hx : X.env.scope.names.lookup x = some .local) (hy : X.env.scope.names.lookup y = some .local) (ha : PE X a (tL W E fa)) (hb : PE X b (tE W E fb)) (hs1 : starEach [a, b] X.env = (false, eval a X.env) :: starEach [b] X.env) (hs2 : starEach [b] X.env = (false, eval b X.env) :: starEach [] X.env)
    (hw : swappedStores [.Tuple [.Name x px, .Name y py] kt pt] (.Tuple [a, b] k2 pt2) X.env = pure (some [x, y])) :
    PS X (.Assign [.Tuple [.Name x px, .Name y py] kt pt] (.Tuple [a, b] k2 pt2) pos) (tS W E (parC i j fa fb)) :=
  (ps_par hc hN hi hj hij hx hy (pa_cons ha (pa_cons hb pa_nil hs2) hs1) hw).imp fun D' σ H ⟨e, F, g, env, s, p⟩ => by
    refine ⟨F, g, env, s.s, ss_ev s p fun xs F1 g1 H1 x1 s1 p1 q vs hn hq nf nm r z => ?_⟩
    refine ⟨F1, g1, env, s1.s, ss_ev s1 p1 fun d F2 g2 H2 x2 s2 p2 v rv => ?_⟩
    have nc : ∀ (j : Nat) (xs : List D), env[j]? = some (.cel xs) → σ[j]? ≠ some (some (.ref q)) := cells_old s.s hn
    exact ⟨_, _, rfl, pst_nx ((s2.cell (x2.kp _ _ hq nm (fun _ z => by cases z)) (x2.nf hq nf) (x2.nm hq nm) (r.ext x2 s1.s.wf) z (s.n0 hn) nc).set rv) p2⟩
end
end TL
end
end

-- text TlU
section
set_option maxHeartbeats 4000000
set_option autoImplicit false
noncomputable section
namespace TL
open PySem PySem.Spec L2
open PyProof.Rows hiding St
/-! ### the interpreter of statements -/
structure StOk (W : Wd) (gt : Gt) (k : Nat) (E : XK) (X : Cx) (cs : Cs) : Prop extends CxOk W gt k E X cs where
  tk : Takes X (fun cls d _ H => E cls d H)
  own : PassesOwn (model X.prog X.w) X.A X.env X.xe
  fk : cs.sc.kind = .function
def hintAt (cs : Cs) (pos : Pos) : Nat := (cs.hint.lookup pos.line).getD 0
/-- by the hint: look at the cells as lists, or not -/
def hbE (cs : Cs) (pos : Pos) (f : Ev → Mo D) : Ev → Mo D := if hintAt cs pos = 1 then fun env => borrow (f (frzE env)) else f
def hbT (cs : Cs) (pos : Pos) (f : Ev → Mo Bool) : Ev → Mo Bool := if hintAt cs pos = 1 then fun env => f (frzE env) else f
def sNx (env : Ev) : Mo (Fl × Ev) := pure (.nx, env)
def sBk (env : Ev) : Mo (Fl × Ev) := pure (.bk, env)
def sCt (env : Ev) : Mo (Fl × Ev) := pure (.ct, env)
def sRt (f : Ev → Mo D) (env : Ev) : Mo (Fl × Ev) := do let d ← f (frzE env); pure (.ret d, env)
def sRn (env : Ev) : Mo (Fl × Ev) := pure (.ret .non, env)
def sEx (f : Ev → Mo D) (env : Ev) : Mo (Fl × Ev) := do let _ ← f env; pure (.nx, env)
def sSet (i : Nat) (f : Ev → Mo D) (env : Ev) : Mo (Fl × Ev) := do let d ← f env; pure (.nx, env.set i (.dat d))
def sNew (i : Nat) (f : Ev → Mo (List D)) (env : Ev) : Mo (Fl × Ev) := do let ds ← f env; pure (.nx, env.set i (.cel ds))
def sLcD (i : Nat) (f : Ev → Mo (List D)) (env : Ev) : Mo (Fl × Ev) := do let ds ← f env; pure (.nx, env.set i (.dat (.lst ds)))
def sAsg (ft : D → Ev → Option Ev) (f : Ev → Mo D) (env : Ev) : Mo (Fl × Ev) := do let d ← f env; let env' ← Mo.of (ft d env); pure (.nx, env')
def sPar (i j : Nat) (fs : Ev → Mo (List D)) (env : Ev) : Mo (Fl × Ev) := do let ds ← fs env; two ds fun a b => (env.set i (.dat a)).set j (.dat b)
def sFor (ft : D → Ev → Option Ev) (fi : Ev → Mo (List D)) (fb : Ev → Mo (Fl × Ev)) (env : Ev) : Mo (Fl × Ev) := do let ds ← fi env; forGo ft fb ds env
def sRaise (c : Str) (env : Ev) : Mo (Fl × Ev) := Mo.raise c
def sss (one : Stmt → Ev → Mo (Fl × Ev)) : List Stmt → Ev → Mo (Fl × Ev)
  | [] => sNx
  | s :: rest => seqM (one s) (sss one rest)
def swC (cs : Cs) (scope : Scope) (t : Str) (p vp : Pos) : Bool :=
  (cs.sc.names.lookup t == some .local) && (p.line == vp.line) && !(scope.names.any fun y => y.1 == t && (y.2 == .local || y.2 == .cell))
def parB (cs : Cs) (x y : Str) (px py : Pos) (a b : Expr) : Bool :=
  decide (cs.sc.names.lookup x = some .local) && decide (cs.sc.names.lookup y = some .local) && decide (x ≠ y) && decide (py.line = px.line) && notStar a && notStar b && !(foldedForSure 8 a && foldedForSure 8 b) && !(constantsAlone 8 a && constantsAlone 8 b)
/-- an expression that makes a list that goes on to change -/
def newF (gt : Gt) (r : Cmp) (cs : Cs) : Expr → Ev → Mo (List D)
  | .List es _ => if es.all notStar = true then (fun env => do let as ← evs (r.e cs) es env; if as.length ≤ lim then pure as else Mo.fail) else fun _ => Mo.fail
  | .ListComp elt [c] scope _ => lcF gt r cs elt c scope
  | .Call (.Name x _) [e] [] _ => if (gloF gt cs x && decide (x = "list") && notStar e) = true then (fun env => do let as ← evs (r.e cs) [e] env; listL as) else fun _ => Mo.fail
  | _ => fun _ => Mo.fail
/-- a local's place -/
def slot (cs : Cs) (x : Str) : Option Nat := if (nmB x && locB cs.sc x && fnB cs x) = true then findI x cs.N else none
def setF (gt : Gt) (r : Cmp) (cs : Cs) (x : Str) (p : Pos) (ex : Expr) (pos : Pos) : Ev → Mo (Fl × Ev) := match slot cs x with
  | some i => (match ex with
    | .ListComp elt [c] scope vp => if swC cs scope x p vp = true then (if hintAt cs pos = 2 then sNew i (lcF gt r cs elt c scope) else sLcD i (lcF gt r cs elt c scope)) else (if hintAt cs pos = 2 then sNew i (newF gt r cs ex) else sSet i (r.e cs ex))
    | ex => if noComp ex = true then (if hintAt cs pos = 2 then sNew i (newF gt r cs ex) else sSet i (hbE cs pos (r.e cs ex))) else fun _ => Mo.fail)
  | none => fun _ => Mo.fail
def parF (gt : Gt) (r : Cmp) (cs : Cs) (x y : Str) (px py : Pos) (a b : Expr) (pos : Pos) (other : Ev → Mo (Fl × Ev)) : Ev → Mo (Fl × Ev) := if parB cs x y px py a b = true then (match findI x cs.N, findI y cs.N with
    | some i, some j => if i = j then fun _ => Mo.fail else if hintAt cs pos = 2 then parC i j (newF gt r cs a) (r.e cs b) else sPar i j (evs (r.e cs) [a, b])
    | _, _ => fun _ => Mo.fail)
  else other
/-- the targets and values of an assignment of tuples that the compiler stores one by one: not these -/
def notLoc (cs : Cs) : Expr → Bool
  | .Name x _ => !(cs.sc.names.lookup x == some .local)
  | _ => true
def noPar (cs : Cs) (tg ex : Expr) : Bool := match ex with
  | .Tuple vs _ _ => (match tg with
    | .Tuple ts _ _ => (!(ts.length == 2 || ts.length == 3) || vs.length != ts.length) || ts.any (notLoc cs)
    | .Name .. => true
    | _ => false)
  | _ => true
def asgF (r : Cmp) (cs : Cs) (tg ex : Expr) (pos : Pos) : Ev → Mo (Fl × Ev) := if (notStar tg && noComp ex && noPar cs tg ex) = true then (match tgF cs tg with
    | some q => sAsg q.2 (hbE cs pos (r.e cs ex))
    | none => fun _ => Mo.fail)
  else fun _ => Mo.fail
def popF (cs : Cs) (tg : Expr) (x : Str) (m : Str) (line : Bool) (other : Ev → Mo (Fl × Ev)) : Ev → Mo (Fl × Ev) :=
  if m = "pop" then (if (nmB x && visB cs.sc x && notStar tg && line) = true then (match findI x cs.N, tgF cs tg with
    | some i, some q => poE i q.2
    | _, _ => fun _ => Mo.fail) else fun _ => Mo.fail) else other
def methF (r : Cmp) (cs : Cs) (x : Str) (m : Str) (ex : Expr) (line : Bool) (other : Ev → Mo (Fl × Ev)) : Ev → Mo (Fl × Ev) :=
  if (nmB x && visB cs.sc x && notStar ex && line) = true then (match findI x cs.N with
    | some i => if m = "append" then apE i (r.e cs ex) else if m = "extend" then exE i (r.e cs ex) else other
    | none => other) else other
def exprF (r : Cmp) (cs : Cs) (ex : Expr) (pos : Pos) : Ev → Mo (Fl × Ev) := if noComp ex = true then sEx (hbE cs pos (r.e cs ex)) else fun _ => Mo.fail
noncomputable def stS (gt : Gt) (r : Cmp) (ss : List Stmt → Ev → Mo (Fl × Ev)) (cs : Cs) (st : Stmt) : Ev → Mo (Fl × Ev) := match st with
  | .Pass _ => sNx
  | .Break _ => sBk
  | .Continue _ => sCt
  | .Return (some e) _ => sRt (r.e cs e)
  | .Return none _ => sRn
  | .If c a b pos => iteM (hbT cs pos (r.t cs c)) (ss a) (ss b)
  | .While c b [] pos => whD (hbT cs pos (r.t cs c)) (ss b)
  | .For tg it b [] _ => (match tgF cs tg with
    | some q => if notSet it = true then sFor q.2 (itF gt cs (r.e cs) tg it) (ss b) else fun _ => Mo.fail
    | none => fun _ => Mo.fail)
  | .Raise (some (.Call (.Name x _) [.Constant (.str _) _ _] [] _)) none _ => if (nmB x && gloB cs.sc x && decide (x ∈ gt.excs)) = true then sRaise x else fun _ => Mo.fail
  | .Expr (.Call (.Attribute (.Name x _) m apos) [ex] [] cpos) pos => methF r cs x m ex (apos.endLine == cpos.line) (fun _ => Mo.fail)
  | .Expr ex pos => exprF r cs ex pos
  | .Assign [tg] (.Call (.Attribute (.Name x _) m apos) [] [] cpos) pos => popF cs tg x m (apos.endLine == cpos.line) (fun _ => Mo.fail)
  | .Assign [.Name x p] ex pos => setF gt r cs x p ex pos
  | .Assign [.Tuple [.Name x px, .Name y py] kt pt] (.Tuple [a, b] k2 pt2) pos => parF gt r cs x y px py a b pos (asgF r cs (.Tuple [.Name x px, .Name y py] kt pt) (.Tuple [a, b] k2 pt2) pos)
  | .Assign [tg] ex pos => asgF r cs tg ex pos
  | _ => fun _ => Mo.fail
section
variable {W : Wd} {X : Cx} {E : XK} {k : Nat} {gt : Gt} {cs : Cs}
theorem hbE_ok {pos : Pos} {ex : Expr} {f : Ev → Mo D} (h : PE X ex (tE W E f)) : PE X ex (tE W E (hbE cs pos f)) := by
  unfold hbE
  by_cases q : hintAt cs pos = 1
  · rw [if_pos q]; exact h.imp tE_borrow
  · rw [if_neg q]; exact h
theorem hbT_ok {pos : Pos} {ex : Expr} {f : Ev → Mo Bool} (h : PT X ex (tT W E f)) : PT X ex (tT W E (hbT cs pos f)) := by
  unfold hbT
  by_cases q : hintAt cs pos = 1
  · rw [if_pos q]; exact h.imp tT_borrow
  · rw [if_neg q]; exact h
theorem sss_ok {one : Stmt → Ev → Mo (Fl × Ev)} (h : ∀ s, PS X s (tS W E (one s))) : ∀ ss, PSs X ss (tS W E (sss one ss))
  | [] => ds_nil
  | s :: rest => ds_cons (h s) (sss_ok h rest)
theorem kindF_ok (c : StOk W gt k E X cs) : X.env.blockKind = .function := by
  unfold Env.blockKind
  rw [c.sc, c.fk]
  rfl
theorem swC_ok (c : StOk W gt k E X cs) {elt : Expr} {gs : List Comprehension} {scope : Scope} {t : Str} {p vp : Pos} {l : Nat} : swapsWith (.ListComp elt gs scope vp) (some (.Name t p)) l X.env = pure (swC cs scope t p vp) := by
  have hb := kindF_ok c
  unfold swC
  rw [← c.sc]
  show pure _ = pure _
  rw [hb]
  rfl
theorem par_ok (c : StOk W gt k E X cs) {x y : Str} {px py : Pos} {a b : Expr} {kt pt k2 pt2} (h : parB cs x y px py a b = true) : swappedStores [.Tuple [.Name x px, .Name y py] kt pt] (.Tuple [a, b] k2 pt2) X.env = pure (some [x, y]) ∧
    X.env.scope.names.lookup x = some .local ∧ X.env.scope.names.lookup y = some .local ∧ notStar a = true ∧ notStar b = true := by
  unfold parB at h
  simp only [Bool.and_eq_true, decide_eq_true_eq, Bool.not_eq_true'] at h
  obtain ⟨⟨⟨⟨⟨⟨⟨h1, h2⟩, h3⟩, h4⟩, h5⟩, h6⟩, h7⟩, h8⟩ := h
  rw [← c.sc] at h1 h2
  refine ⟨?_, h1, h2, h5, h6⟩
  have hb := kindF_ok c
  have k1 : X.env.kindOf x = some .local := h1
  have k2 : X.env.kindOf y = some .local := h2
  have h3' : ¬ y = x := fun e => h3 e.symm
  unfold swappedStores
  simp [hb, k1, k2, h4, h7, h8, Expr.pos, List.eraseDups, List.eraseDupsBy, List.eraseDupsBy.loop, h3, h3']
  have e : (y == x) = false := by simpa using h3'
  rw [e]
  split
  · cases h5
  · split
    · cases h6
    · rfl
theorem newF_ok {r : Cmp} (hr : Snd gt W k r) (c : StOk W gt k E X cs) (ex : Expr) : PE X ex (tL W E (newF gt r cs ex)) := by
  have no : ∀ ex, PE X ex (tL W E fun _ => Mo.fail) := fun ex => ⟨fun pins s σ H Q I ⟨_, _, _, _, p⟩ => p.elim⟩
  have he := (hr E X cs c.toCxOk).1
  unfold newF
  split
  · rename_i es pos
    by_cases q : es.all notStar = true
    · rw [if_pos q]; exact dl_lst (evs_ok he q)
    · rw [if_neg q]; exact no _
  · rename_i elt q scope pos
    refine lcF_ok hr c.toCxOk (P := fun f => PE X _ (tL W E f)) (no _) ?_
    intro sl ft tt el fi own h0 h1 h2 h3 h4 h5 h6 h7
    rw [h0]
    exact dl_lc c.calm (by rw [c.N]; exact c.nd) h1 h2 h3 h4 h5 h6 h7
  · rename_i x p e pos
    by_cases q : (gloF gt cs x && decide (x = "list") && notStar e) = true
    · rw [if_pos q]
      rw [Bool.and_eq_true, Bool.and_eq_true, decide_eq_true_eq] at q
      obtain ⟨g1, g2, g3, g4⟩ := gloF_ok c.toCxOk q.1.1
      exact dl_list c.K c.calm g1 g2 (by rw [q.1.2]; decide +kernel) (evs_ok he (by rw [List.all_cons, q.2] <;> rfl)) g4 g3 (star_cons q.2) rfl
    · rw [if_neg q]; exact no _
  · exact no _
theorem slot_ok (c : CxOk W gt k E X cs) {x : Str} {i : Nat} (h : slot cs x = some i) : X.N[i]? = some x ∧ L2.Loc X.env.scope x ∧ (X.fn x = true ∨ X.env.scope.names.lookup x = some .local) := by
  unfold slot at h
  by_cases q : (nmB x && locB cs.sc x && fnB cs x) = true
  · rw [if_pos q] at h
    rw [Bool.and_eq_true, Bool.and_eq_true] at q
    exact ⟨by rw [c.N]; exact findI_get h, by rw [c.sc]; exact locB_ok q.1.2, c.fn x q.2⟩
  · rw [if_neg q] at h; cases h
theorem setF_ok {r : Cmp} (hr : Snd gt W k r) (c : StOk W gt k E X cs) {x : Str} {p pos : Pos} {ex : Expr} : PS X (.Assign [.Name x p] ex pos) (tS W E (setF gt r cs x p ex pos)) := by
  have he := (hr E X cs c.toCxOk).1
  have nd : X.N.Nodup := by rw [c.N]; exact c.nd
  unfold setF
  cases e0 : slot cs x with
  | none => exact ps_no
  | some i =>
    obtain ⟨h1, h2, h3⟩ := slot_ok c.toCxOk e0
    have nw : swapsWith ex (some (.Name x p)) pos.line X.env = pure false → PS X (.Assign [.Name x p] ex pos) (tS W E (sNew i (newF gt r cs ex))) := fun hs => ds_new nd h1 h2 (newF_ok hr c ex) hs h3
    have pl : PS X (.Assign [.Name x p] ex pos) (tS W E (if noComp ex = true then (if hintAt cs pos = 2 then sNew i (newF gt r cs ex) else sSet i (hbE cs pos (r.e cs ex))) else fun _ => Mo.fail)) := iteS fun q => by
      by_cases b : hintAt cs pos = 2
      · rw [if_pos b]; exact nw (no_swap q)
      · rw [if_neg b]; exact ds_set nd h1 h2 (hbE_ok (he ex)) (no_swap q) h3
    cases ex with
    | ListComp elt gs scope vp =>
      match gs with
      | [q] =>
        show PS X _ (tS W E (if swC cs scope x p vp = true then (if hintAt cs pos = 2 then sNew i (lcF gt r cs elt q scope) else sLcD i (lcF gt r cs elt q scope)) else (if hintAt cs pos = 2 then sNew i (newF gt r cs _) else sSet i (r.e cs _))))
        by_cases sw : swC cs scope x p vp = true
        · rw [if_pos sw]
          have hl : cs.sc.names.lookup x = some .local := by
            unfold swC at sw
            rw [Bool.and_eq_true, Bool.and_eq_true] at sw
            simpa using sw.1.1
          have hs := swC_ok (elt := elt) (gs := [q]) (l := pos.line) c (scope := scope) (t := x) (p := p) (vp := vp)
          rw [sw] at hs
          have lc : PS X (.Assign [.Name x p] (.ListComp elt [q] scope vp) pos) (tAsg (tL W E (lcF gt r cs elt q scope)) (gName i)) := by
            refine lcF_ok hr c.toCxOk (P := fun f => PS X (.Assign [.Name x p] (.ListComp elt [q] scope vp) pos) (tAsg (tL W E f) (gName i))) ?_ ?_
            · exact ⟨fun pins s σ H Q I ⟨_, _, _, _, p⟩ => p.elim⟩
            · intro sl ft tt el fi own h0 h1' h2' h3' h4 h5 h6 h7
              rw [h0] at hs ⊢
              exact ps_lcS c.calm nd h1 (by rw [c.sc]; exact hl) hs h1' h2' h3' h4 h5 h6 h7
          by_cases b : hintAt cs pos = 2
          · rw [if_pos b]; exact ds_newLc lc
          · rw [if_neg b]; exact ds_lcD lc
        · rw [if_neg sw]
          have hs := swC_ok (elt := elt) (gs := [q]) (l := pos.line) c (scope := scope) (t := x) (p := p) (vp := vp)
          rw [show swC cs scope x p vp = false by simpa using sw] at hs
          by_cases b : hintAt cs pos = 2
          · rw [if_pos b]; exact nw hs
          · rw [if_neg b]; exact ds_set nd h1 h2 (he _) hs h3
      | [] => exact pl
      | _ :: _ :: _ => exact pl
    | _ => exact pl
end
end TL
end
end

-- text TlV
section
set_option maxHeartbeats 4000000
set_option autoImplicit false
noncomputable section
namespace TL
open PySem PySem.Spec L2
open PyProof.Rows hiding St
section
variable {W : Wd} {X : Cx} {E : XK} {k : Nat} {gt : Gt} {cs : Cs}
theorem fm_lt {α β : Type} (f : α → Option β) : ∀ {l : List α}, (∃ x, x ∈ l ∧ f x = none) → (l.filterMap f).length < l.length
  | [], ⟨x, h, _⟩ => by cases h
  | y :: l, ⟨x, h, e⟩ => by
    rw [List.filterMap_cons]
    rcases List.mem_cons.mp h with rfl | h
    · rw [e]
      exact Nat.lt_succ_of_le (List.length_filterMap_le ..)
    · have := fm_lt f ⟨x, h, e⟩
      cases f y with
      | none => exact Nat.lt_succ_of_lt this
      | some z => exact Nat.succ_lt_succ this
theorem swp_none {env : Env} {ts vs : List Expr} {tk tp vk vp} (hs : env.scope = cs.sc) (h : ts.any (notLoc cs) = true) : swappedStores [.Tuple ts tk tp] (.Tuple vs vk vp) env = pure none := by
  obtain ⟨x, hx, nl⟩ := List.any_eq_true.mp h
  have lt : ∀ line : Nat, (ts.filterMap fun
    | .Name id pos => if env.kindOf id == some .local && pos.line == line then some id else none
    | _ => none).length < ts.length := fun line => fm_lt _ ⟨x, hx, by
      cases x with
      | Name id pos =>
        have e : (env.kindOf id == some .local) = false := by
          have : (!(cs.sc.names.lookup id == some .local)) = true := nl
          rw [← hs] at this
          show (env.scope.names.lookup id == some .local) = false
          simpa using this
        show (if (env.kindOf id == some .local && pos.line == line) = true then some id else none) = none
        rw [e] <;> rfl
      | _ => rfl⟩
  unfold swappedStores
  simp only []
  split
  · rfl
  split
  · rfl
  refine if_pos ?_
  have := lt ((ts.head?.map (·.pos.line)).getD 0)
  rw [Bool.or_eq_true]
  left
  simp only [bne_iff_ne]
  exact Nat.ne_of_lt this
theorem noPar_ok {tg ex : Expr} {env : Env} (hs : env.scope = cs.sc) (h1 : notStar tg = true) (h : noPar cs tg ex = true) : swappedStores [tg] ex env = pure none := by
  cases ex with
  | Tuple vs vk vp => cases tg with
    | Tuple ts tk tp =>
      have h : ((!(ts.length == 2 || ts.length == 3) || vs.length != ts.length) || ts.any (notLoc cs)) = true := h
      rw [Bool.or_eq_true] at h
      rcases h with h | h
      · show (do
          if !(ts.length == 2 || ts.length == 3) || vs.length != ts.length || env.blockKind != .function then return none
          _ : Sem (Option (List Str))) = pure none
        rw [h, Bool.true_or]
        rfl
      · exact swp_none hs h
    | Name => rfl
    | _ => cases h
  | _ => cases tg <;> first | rfl | cases h1
theorem asgF_ok {r : Cmp} (hr : Snd gt W k r) (c : StOk W gt k E X cs) {tg ex : Expr} {pos : Pos} : PS X (.Assign [tg] ex pos) (tS W E (asgF r cs tg ex pos)) := by
  unfold asgF
  refine iteS fun q => ?_
  rw [Bool.and_eq_true, Bool.and_eq_true] at q
  cases e0 : tgF cs tg with
  | none => exact ps_no
  | some z => exact ds_asg (hbE_ok ((hr E X cs c.toCxOk).1 ex)) (tgF_ok c.toCxOk e0) (no_swap q.1.2) (noPar_ok c.sc q.1.1 q.2) (by rw [star_asg q.1.1] <;> rfl)
theorem parF_ok {r : Cmp} (hr : Snd gt W k r) (c : StOk W gt k E X cs) {x y : Str} {px py pos : Pos} {a b : Expr} {kt pt k2 pt2} : PS X (.Assign [.Tuple [.Name x px, .Name y py] kt pt] (.Tuple [a, b] k2 pt2) pos) (tS W E (parF gt r cs x y px py a b pos (asgF r cs (.Tuple [.Name x px, .Name y py] kt pt) (.Tuple [a, b] k2 pt2) pos))) := by
  have he := (hr E X cs c.toCxOk).1
  unfold parF
  by_cases q : parB cs x y px py a b = true
  case neg => rw [if_neg q]; exact asgF_ok hr c
  rw [if_pos q]
  obtain ⟨h1, h2, h3, h4, h5⟩ := par_ok (kt := kt) (pt := pt) (k2 := k2) (pt2 := pt2) c q
  split
  · rename_i i j e1 e2
    by_cases hij : i = j
    · rw [if_pos hij]; exact ps_no
    · rw [if_neg hij]
      have nd : X.N.Nodup := by rw [c.N]; exact c.nd
      have g1 : X.N[i]? = some x := by rw [c.N]; exact findI_get e1
      have g2 : X.N[j]? = some y := by rw [c.N]; exact findI_get e2
      by_cases hh : hintAt cs pos = 2
      · rw [if_pos hh]
        exact ds_parC c.calm nd g1 g2 hij h2 h3 (newF_ok hr c a) (he b) (star_cons h4) (star_cons h5) h1
      · rw [if_neg hh]
        exact ds_par c.calm nd g1 g2 hij h2 h3 (evs_ok he (by rw [List.all_cons, List.all_cons, h4, h5] <;> rfl)) h1
  · exact ps_no
theorem popF_ok (c : StOk W gt k E X cs) {tg : Expr} {x m : Str} {p apos cpos pos : Pos} : PS X (.Assign [tg] (.Call (.Attribute (.Name x p) m apos) [] [] cpos) pos) (tS W E (popF cs tg x m (apos.endLine == cpos.line) fun _ => Mo.fail)) := by
  unfold popF
  by_cases hm : m = "pop"
  · rw [if_pos hm]
    subst hm
    refine iteS fun q => ?_
    rw [Bool.and_eq_true, Bool.and_eq_true, Bool.and_eq_true] at q
    obtain ⟨d1, d2, d3⟩ := nmB_ok q.1.1.1
    split
    · rename_i i z e1 e2
      exact ds_pop (by rw [c.N]; exact findI_get e1) (by rw [c.sc]; exact visB_ok q.1.1.2) d1 d2 (tgF_ok c.toCxOk e2) (by rw [star_asg q.1.2] <;> rfl) q.2
    · exact ps_no
  · rw [if_neg hm]; exact ps_no
theorem methF_ok {r : Cmp} (hr : Snd gt W k r) (c : StOk W gt k E X cs) {ex : Expr} {x m : Str} {p apos cpos pos : Pos} : PS X (.Expr (.Call (.Attribute (.Name x p) m apos) [ex] [] cpos) pos) (tS W E (methF r cs x m ex (apos.endLine == cpos.line) fun _ => Mo.fail)) := by
  have he := (hr E X cs c.toCxOk).1
  unfold methF
  refine iteS fun q => ?_
  rw [Bool.and_eq_true, Bool.and_eq_true, Bool.and_eq_true] at q
  obtain ⟨d1, d2, d3⟩ := nmB_ok q.1.1.1
  split
  · rename_i i e1
    have g1 : X.N[i]? = some x := by rw [c.N]; exact findI_get e1
    have g2 : Vis X.env.scope x := by rw [c.sc]; exact visB_ok q.1.1.2
    by_cases c1 : m = "append"
    · rw [if_pos c1]
      subst c1
      exact ds_append c.K g1 g2 d1 d2 (he ex) (star_cons q.1.2) q.2
    rw [if_neg c1]
    by_cases c1 : m = "extend"
    · rw [if_pos c1]
      subst c1
      exact ds_extend g1 g2 d1 d2 (he ex) (star_cons q.1.2) q.2
    rw [if_neg c1]
    exact ps_no
  · exact ps_no
theorem exprF_ok {r : Cmp} (hr : Snd gt W k r) (c : StOk W gt k E X cs) {ex : Expr} {pos : Pos} : PS X (.Expr ex pos) (tS W E (exprF r cs ex pos)) := by
  unfold exprF
  exact iteS fun q => ds_expr (hbE_ok ((hr E X cs c.toCxOk).1 ex)) (no_swap q)
theorem stS_ok {r : Cmp} (hr : Snd gt W k r) (c : StOk W gt k E X cs) (hx : X.mg = W.mg) {ss : List Stmt → Ev → Mo (Fl × Ev)} (hs : ∀ b, PSs X b (tS W E (ss b))) (st : Stmt) : PS X st (tS W E (stS gt r ss cs st)) := by
  have he := (hr E X cs c.toCxOk).1
  have ht := (hr E X cs c.toCxOk).2
  unfold stS
  split
  · exact ds_pass
  · exact ds_break
  · exact ds_continue
  · exact ds_ret (he _)
  · exact ds_retN
  · exact ds_if (hbT_ok (ht _)) (hs _) (hs _)
  · exact ds_while c.own (hbT_ok (ht _)) (hs _)
  · split
    · rename_i q e1
      refine iteS fun h => ds_for c.own c.calm (itF_ok c.toCxOk he) (tgF_ok c.toCxOk e1) (hs _) (not_folded h)
    · exact ps_no
  · rename_i x p z j p2 pos pos'
    refine iteS fun q => ?_
    rw [Bool.and_eq_true, Bool.and_eq_true, decide_eq_true_eq] at q
    obtain ⟨d1, d2, d3⟩ := nmB_ok q.1.1
    obtain ⟨C, B, n, i, b, f1, f2, f3, f4, f5, f6⟩ := c.gl.excs x q.2
    exact ds_raise c.calm c.tk (by rw [← hx]; exact f3) (pmk_own f1 f2 f3 f4 (raises_own f5 f6) (gloB_ok (by rw [c.sc]; exact q.1.2)) d1)
  · exact methF_ok hr c
  · exact exprF_ok hr c
  · exact popF_ok c
  · exact setF_ok hr c
  · exact parF_ok hr c
  · exact asgF_ok hr c
  · exact ps_no
/-- blocks by depth -/
noncomputable def blS (gt : Gt) (r : Cmp) (cs : Cs) : Nat → List Stmt → Ev → Mo (Fl × Ev)
  | 0 => fun _ _ => Mo.fail
  | n + 1 => sss (stS gt r (blS gt r cs n) cs)
theorem pss_no {b : List Stmt} : PSs X b (tS W E fun _ => Mo.fail) := ⟨fun pins s σ H D I ⟨_, _, _, _, _, p⟩ => p.elim⟩
theorem blS_ok {r : Cmp} (hr : Snd gt W k r) (c : StOk W gt k E X cs) : ∀ n b, PSs X b (tS W E (blS gt r cs n b))
  | 0, b => pss_no
  | n + 1, b => sss_ok (fun s => stS_ok hr c c.mg (blS_ok hr c n) s) b
end
end TL
end
end

-- text TlW
section
set_option maxHeartbeats 4000000
set_option autoImplicit false
noncomputable section
namespace TL
open PySem PySem.Spec L2
open PyProof.Rows hiding St
/-! ### a def -/
def envOf (n : Nat) (ds : List D) : Ev := ds.map Sl.dat ++ List.replicate (n - ds.length) Sl.un
def runB (b : Ev → Mo (Fl × Ev)) (n : Nat) (ds : List D) : Mo D := do
  let r ← b (envOf n ds)
  match r.1 with
  | .ret d => pure d
  | .nx => pure .non
  | _ => Mo.fail
section
variable {W : Wd} {F : Fz} {g : G} {H : Hp}
theorem env_at {n : Nat} {ds : List D} {i : Nat} {sl : Sl} (h : (envOf n ds)[i]? = some sl) : (∃ d, ds[i]? = some d ∧ sl = .dat d) ∨ (ds.length ≤ i ∧ i < n ∧ sl = .un) := by
  unfold envOf at h
  by_cases c : i < ds.length
  · rw [List.getElem?_append_left (by rw [List.length_map]; exact c), List.getElem?_map] at h
    obtain ⟨d, h1, h2⟩ := Option.map_eq_some_iff.mp h
    exact .inl ⟨d, h1, h2.symm⟩
  · rw [List.getElem?_append_right (by rw [List.length_map]; omega), List.length_map, List.getElem?_replicate] at h
    split at h
    · cases h
      exact .inr ⟨by omega, by omega, rfl⟩
    · cases h
theorem s_start {N : List Str} {vs : List V} {ds : List D} (w : Wf W F g H) (r : RepL W F H vs ds) (hn : ds.length ≤ N.length) : S W (envOf N.length ds) (L2.start N vs) F g H where
  wf := w
  len := by
    unfold envOf L2.start
    rw [List.length_append, List.length_append, List.length_map, List.length_map, List.length_replicate, List.length_replicate, r.length]
  at_ := fun i sl h => by
    rcases env_at h with ⟨d, h1, rfl⟩ | ⟨h1, h2, rfl⟩
    · obtain ⟨v, e1, e2⟩ := r.get h1
      refine ⟨some v, ?_, v, rfl, e2⟩
      unfold L2.start
      have hi : i < vs.length := (List.getElem?_eq_some_iff.mp e1).1
      rw [List.getElem?_append_left (by rw [List.length_map]; exact hi), List.getElem?_map, e1] <;> rfl
    · refine ⟨none, ?_, trivial⟩
      unfold L2.start
      have := r.length
      rw [List.getElem?_append_right (by rw [List.length_map]; omega), List.length_map, List.getElem?_replicate, if_pos (by omega)]
  ap := fun i j xs ys a h _ _ _ => by
    rcases env_at h with ⟨_, _, z⟩ | ⟨_, _, z⟩ <;> cases z
theorem no_cel {n : Nat} {ds xs : List D} {i : Nat} (h : (envOf n ds)[i]? = some (.cel xs)) : False := by
  rcases env_at h with ⟨_, _, z⟩ | ⟨_, _, z⟩ <;> cases z
theorem ss_start {N : List Str} {vs : List V} {ds : List D} (w : Wf W F g H) (r : RepL W F H vs ds) (hn : ds.length ≤ N.length) : SS W ⟨F, g, H, []⟩ (envOf N.length ds) (L2.start N vs) F g H :=
  ⟨s_start w r hn, Ext.refl w, fun i xs a h _ => by
    exact (no_cel h).elim, fun q hq => by cases hq⟩
theorem fn_start {E : XK} {Q : VK} {N : List Str} {vs : List V} {ds : List D} {b : Ev → Mo (Fl × Ev)} (w : Wf W F g H) (r : RepL W F H vs ds) (hn : ds.length ≤ N.length) (p : PR W E (PQ W Q) F g H (runB b N.length ds g)) :
    tS W E b { nx := fun _ H' => Q .non H', rt := Q } (L2.start N vs) H := by
  refine ⟨⟨F, g, H, []⟩, F, g, envOf N.length ds, ss_start w r hn, ?_⟩
  unfold runB at p
  cases q : b (envOf N.length ds) g with
  | ok r g3 =>
    have p3 := PR.at_ q p
    obtain ⟨fl, env3⟩ := r
    cases fl with
    | nx => exact fun F' H' x σ' s' => p3 F' H' x .non .non
    | ct => exact p3.elim
    | bk => exact p3.elim
    | ret d => exact fun F' H' x v rv => p3 F' H' x v rv
  | exc c g3 =>
    rw [bind_exc q] at p
    exact p
  | stuck =>
    rw [bind_stuck q] at p
    exact p
end
section
variable {W : Wd} {P : Program} {w : World} {K : PySem.W.Frag} {mg : Str → Option Value} {base : Heap} {k : Nat} {gt : Gt} {hk : Hk}
theorem st_ok {E : XK} {N ps : List Str} {qual : Str} {scope : Scope} {f : Addr} {cdv : Value} {A : Around} {outer : List Env} {s : Shared} {H : Hp} {hint : List (Nat × Nat)} {code : Bool} (hK : K = W.K) (hm : mg = W.mg) (S : FnScope N ps scope) (gl : GlP W P w K mg base k gt)
    (hr : Room k (A.deeper (envOfC qual scope s.heap.objs.size f cdv))) (hc : code = true → gt.ax W P w K mg base k cdv (qual ++ ".<locals>.")) : StOk W gt k E (cxOf (L2.CX P w) P w K mg base N qual scope f cdv A outer s H E) ⟨N, scope, none, hint, code⟩ := by
  have tk : Takes (cxOf (L2.CX P w) P w K mg base N qual scope f cdv A outer s H E) (fun cls d _ H => E cls d H) := takes_of rfl rfl rfl rfl
  exact
  { K := hK
    mg := hm
    N := rfl
    nd := S.nd
    sc := rfl
    calm := rfl
    fn := fun _ _ => .inl rfl
    room := hr
    ps := passes_call tk fun _ _ _ _ h => h
    gl := gl
    cd := hc
    tk := tk
    own := passes_of rfl
    fk := S.kind }
/-- THE RULE: a def runs as the interpreter says -/
theorem fn_run {x qual : Str} {params : Arguments} {body : List Stmt} {scope : Scope} {dvs : List V} {kws : List (Str × V)} {f : Addr} {fd : FuncData} {N ps : List Str} (hint : List (Nat × Nat)) (m n : Nat) (hK : K = W.K) (hm : mg = W.mg)
    (Fd : FunD K x qual params body scope dvs kws f fd) (S : FnScope N ps scope) (gl : GlP W P w K mg base k gt) (hh : HkOk gt W k hk) :
    FnOk P w K mg base (L2.CX P w) (k + 1) f fd ps (spD W ps.length (runB (blS gt (cmp gt hk m) ⟨N, scope, none, hint, false⟩ n body) N.length)) := by
  have hpl : ps.length ≤ N.length := by
    have := congrArg List.length S.pre
    rw [List.length_take] at this
    omega
  refine Fd.ok S (fun vs H Q E h => ?_) (fun cdv A outer s H vs Q E hr h => ?_)
  · obtain ⟨F, g, ds, _, r, hl, _⟩ := h
    rw [r.length, hl]
  · obtain ⟨F, g, ds, wf, r, hl, p⟩ := h
    exact ⟨_, blS_ok (cmp_ok hh m) (st_ok hK hm S gl hr (fun e => by cases e)) n body, fn_start wf r (by rw [hl]; exact hpl) p⟩
theorem FEk.mono {j : Nat} {x : Str} {e : FnE} (h : FEk W P w K mg base j x e) (hj : j ≤ k) : FEk W P w K mg base k x e := by
  obtain ⟨f, fd, ps, i, h1, h2⟩ := h
  exact ⟨f, fd, ps, i, Nat.le_trans h1 hj, h2⟩
/-- all of a table of defs -/
def AllF (W : Wd) (P : Program) (w : World) (K : PySem.W.Frag) (mg : Str → Option Value) (base : Heap) (k : Nat) : List (Str × FnE) → Prop
  | [] => True
  | q :: r => FEk W P w K mg base k q.1 q.2 ∧ AllF W P w K mg base k r
theorem AllF.at_ : ∀ {l : List (Str × FnE)}, AllF W P w K mg base k l → ∀ x e, l.lookup x = some e → FEk W P w K mg base k x e
  | [], _, _, _, h => by cases h
  | (y, e') :: r, ⟨h1, h2⟩, x, e, h => by
    rw [List.lookup_cons] at h
    by_cases c : (x == y) = true
    · rw [c] at h
      cases h
      have : x = y := by simpa using c
      rw [this]
      exact h1
    · have c' : (x == y) = false := by simpa using c
      rw [c'] at h
      exact AllF.at_ h2 x e h
end
end TL
end
end

-- text TlX
section
set_option maxHeartbeats 4000000
set_option autoImplicit false
noncomputable section
namespace TL
open PySem PySem.Spec L2
open PyProof.Rows hiding St
/-! ### what the interpreter makes of a text, in words -/
def eV (i : Nat) (env : Ev) : Mo D := Mo.of (getS env i)
def eC (d : D) (env : Ev) : Mo D := pure d
def eF (env : Ev) : Mo D := Mo.fail
def iF (env : Ev) : Mo (List D) := Mo.fail
def lF (env : Ev) : Mo (List D) := Mo.fail
def sF (env : Ev) : Mo (Fl × Ev) := Mo.fail
def eO (f : D → D → Mo D) (fa fb : Ev → Mo D) (env : Ev) : Mo D := do let a ← fa env; let b ← fb env; f a b
def eAnd (fa fb : Ev → Mo D) (env : Ev) : Mo D := andV (fa env) (fb env)
def eOr (fa fb : Ev → Mo D) (env : Ev) : Mo D := orV (fa env) (fb env)
def tAnd (fa fb : Ev → Mo Bool) (env : Ev) : Mo Bool := andT (fa env) (fb env)
def tOr (fa fb : Ev → Mo Bool) (env : Ev) : Mo Bool := orT (fa env) (fb env)
def tYes (env : Ev) : Mo Bool := pure true
def eNil (env : Ev) : Mo (List D) := pure []
def eCons (fa : Ev → Mo D) (fs : Ev → Mo (List D)) (env : Ev) : Mo (List D) := do let a ← fa env; let as ← fs env; pure (a :: as)
def eN (env : Ev) : Mo (Option Int) := pure none
def eS (fe : Ev → Mo D) (env : Ev) : Mo (Option Int) := do let a ← fe env; Mo.of (intO a)
def lcC (ft : D → Ev → Option Ev) (tt : Ev → Mo Bool) (el : Ev → Mo D) (vs : List Nat) (fi : Ev → Mo (List D)) (env : Ev) : Mo (List D) := lcM ft tt el vs (fi env) env
def nLst (fs : Ev → Mo (List D)) (env : Ev) : Mo (List D) := do let as ← fs env; if as.length ≤ lim then pure as else Mo.fail
def bE (f : Ev → Mo D) (env : Ev) : Mo D := borrow (f (frzE env))
def bT (f : Ev → Mo Bool) (env : Ev) : Mo Bool := f (frzE env)
end TL
end
end

-- text TlZ
section
set_option maxHeartbeats 4000000
set_option autoImplicit false
noncomputable section
namespace TL
open PySem PySem.Spec L2
open PyProof.Rows hiding St
/-! ### an exception that is kept -/
section
variable {X : Cx} {pins : List (Addr × Obj)} {σ : St} {H : Hp} {s : Shared}
theorem adopt {a C : Addr} {oe : Obj} {vs : Array Value} (I : Inv X pins σ H s) (ha : s.heap.get? a = some oe) (hd : oe.data = .fields vs) (hz : Zc (.ref C) none oe) (na : H a = none) (nL : a ≠ X.env.locals) (n0 : X.s_0.heap.get? a = none) (np : ∀ p ∈ X.pn ++ pins, p.1 ≠ a) :
    Inv X pins σ (upd H a (ExcO C a)) s where
  ok := I.ok
  os := I.os
  bare := I.bare
  base := ⟨I.base.keep, I.base.slot, fun b o e n hx => by
      have hb : b ≠ a := fun q => by rw [q, n0] at e; cases e
      rw [upd_ne hb]
      exact I.base.free b o e n hx, I.base.there, fun b xs e => by
      have e' := I.base.tups b xs e
      rw [upd_ne (ne_of_none e' na)]
      exact e', fun b o u e => by
      have e' := I.base.frzs b o u e
      rw [upd_ne (ne_of_none e' na)]
      exact e', fun b ps e => by
      obtain ⟨more, e'⟩ := I.base.tbls b ps e
      exact ⟨more, by rw [upd_ne (ne_of_none e' na)]; exact e'⟩⟩
  loc := I.loc
  cell := I.cell
  free := by rw [upd_ne (fun q => nL q.symm)]; exact I.free
  freeC := fun x c e => by
    have hc : c ≠ a := fun q => by
      obtain ⟨v, o, ho, hv⟩ := I.cell x c e
      rw [q, ha] at ho
      cases ho
      rw [hd] at hv
      cases hv
    rw [upd_ne hc]
    exact I.freeC x c e
  pin := fun p hp => by
    obtain ⟨h1, h2, h3, h4, h5⟩ := I.pin p hp
    exact ⟨h1, by rw [upd_ne (np p hp)]; exact h2, h3, h4, h5⟩
  hok := fun b o e => by
    by_cases hb : b = a
    · subst hb
      rw [upd_same] at e
      cases e
      exact ⟨⟨oe, vs, ha, hz, hd⟩, ⟨oe, ha⟩, fun h1 h2 ⟨o1, v1, x1, x2, x3⟩ st => ⟨o1, v1, st _ x1, x2, x3⟩⟩
    · rw [upd_ne hb] at e
      refine (I.hok b o e).stay (fun _ _ _ q => q) (fun d q => ?_) (fun d xs q => ?_)
      · rw [upd_ne (ne_of_none q na)]; exact q
      · rw [upd_ne (ne_of_none q na)]; exact q
  len := I.len
end
/-- except x as n, the exception is known by its class from then on -/
def wKeep (K : PySem.W.Frag) (c : Value) (i : Nat) (ts : Addr → Value → Option Addr → TS) (Wout : WX) (D : Ends) : WX := fun cls d σ H =>
  ∃ b, PySem.W.exmOne K cls c = some b ∧ (b = true → ∃ C : Addr, cls = .ref C ∧ d = none ∧ ∀ a, H a = none → ts a cls d { nx := fun σ' H' => D.nx (σ'.set i none) (upd H' a (ExcO C a)), rt := fun _ _ => False } (σ.set i (some (.ref a))) H) ∧ (b = false → Wout cls d σ H)
section
variable {X : Cx} {x n : Str} {c : Value} {i : Nat} {body suite : List Stmt} {b₀ : Stmt} {np pos pos' : Pos} {tb : WX → TS} {ts : Addr → Value → Option Addr → TS} {Wout : WX}
theorem ps_try_keep (hst : X.stack = X.env :: X.outer) (hfr0 : X.env.frame = some X.env.locals) (hex : X.ex = []) (hN : X.N.Nodup) (hi : X.N[i]? = some n) (hln : X.env.kindOf n = some .local) (hc : Names X x c) (tk : Takes X Wout)
    (hb : ∀ (W : WX) (pn : List (Addr × Obj)) (xe : Value → Shared → Prop), Takes (X.tr pn xe) W → PassesOwn (model X.prog X.w) X.A X.env xe → PSs (X.tr pn xe) body (tb W))
    (hsu : ∀ (a : Addr) (oe : Obj) (cls : Value) (d : Option Addr) (pn : List (Addr × Obj)), Zc cls d oe → (∃ vs, oe.data = .fields vs) → PSs (X.suite a ((a, oe) :: pn)) (b₀ :: suite) (ts a cls d)) :
    PS X (.Try body [.ExceptHandler (some (.Name x np)) (some n) (b₀ :: suite) pos'] [] [] pos) (fun D σ H => tb (wKeep X.K c i ts Wout D) D σ H) := by
  refine ⟨fun pins s σ H D I h => ?_⟩
  have ok := I.ok
  have hfr : X.A.frames = some (X.env :: X.outer) := ok.frames.trans (by rw [hst])
  have hloc : L2.Loc X.env.scope n := .inl hln
  refine wpAny_Try_except ?_
  refine wpAny_mono ((hb (wKeep X.K c i ts Wout D) (X.pn ++ pins) (fun e z₁ => wpAny (model X.prog X.w) X.A (noteFrame e X.env) (fun _ z₂ => wpAny (model X.prog X.w) X.A (setFlight e none) (fun _ z₃ =>
    wpAny (model X.prog X.w) X.A (handleBy e X.env [.ExceptHandler (some (.Name x np)) (some n) (b₀ :: suite) pos']) (SP X pins D) X.xe z₃) X.xe z₂) X.xe z₁) (fun u s' xx => ?_) PassesOwn.looking).run [] s σ H D (I.toTry _) h) (fun f s1 hsp => ?_) (fun e s1 he => he)
  · obtain ⟨a, B, sI, pins', σ', H', cls, d, rfl, J', nb, up, sky, na, os, ag, b, hb1, yes, no⟩ := xx
    have J : Inv X pins σ' H' sI := J'.ofTry ok
    have sky' : Sky B (X.env :: X.outer) a (Zc cls d) X.env.locals s'.heap := hst ▸ sky
    show wpAny (model X.prog X.w) X.A (noteFrame (.ref a) X.env) _ _ _
    refine Sky.land Zc.steady hfr hfr0 sky' fun h3 fl3 up3 => ?_
    have J3 : Inv X pins σ' H' { s' with heap := h3 } := J.landed nb fl3.1 (up.trans up3) os ag
    obtain ⟨oe3, vs3, he3, hz3, hd3⟩ := fl3.there
    have nfr : a ∉ frs (X.env :: X.outer) := fun hm => by
      obtain ⟨_, o', e', hnf⟩ := fl3.2.2.1.mem hm
      rw [he3] at e'
      cases e'
      exact hnf _ hd3
    have nL : a ≠ X.env.locals := fun z => nfr (List.mem_filterMap.mpr ⟨X.env, List.mem_cons_self, by rw [hfr0, z]⟩)
    have nF : a ∉ X.fs := fun hm => by
      obtain ⟨e, he, q⟩ := List.mem_filterMap.mp hm
      exact nfr (List.mem_filterMap.mpr ⟨e, List.mem_cons_of_mem _ he, q⟩)
    have nI : sI.heap.get? a = none := by
      cases q : sI.heap.get? a with
      | none => rfl
      | some o =>
        have z := nb a o q (by rw [hst]; exact nfr)
        rw [fl3.2.1] at z
        cases z
    have n0 : X.s_0.heap.get? a = none := by
      cases q : X.s_0.heap.get? a with
      | none => rfl
      | some o =>
        obtain ⟨o', z⟩ := J.base.there a o q (by rw [hex]; exact fun z => by cases z)
        rw [nI] at z
        cases z
    have nP : ∀ p ∈ X.pn ++ pins, p.1 ≠ a := fun p hp q => by
      have z := (J.pin p hp).1
      rw [q, nI] at z
      cases z
    have S3 := J3.suite he3 hd3 na nL nF
    refine wpAny_handleBy_cons (codeAny_handlers_test ?_) (by intro q; cases q)
    have LT : PySem.W.Looks (model X.prog X.w) h3 (typeOf (.ref a)) cls := fun A Q E s k q => wpAny_typeOf_ref (k _ _ he3) (hz3.1 ▸ q)
    have LM := PySem.W.exm_one (M := model X.prog X.w) (J3.kIn) LT hb1
    have test : ∀ {Q : Value → Shared → Prop} {E : Value → Shared → Prop}, Q c { s' with heap := h3 } → wpAny (model X.prog X.w) (X.A.mark (some (.ref a))) (eval (.Name x np) X.env) Q E { s' with heap := h3 } := fun {Q E} q => by
      obtain ⟨g1, g2, g3 | ⟨g3, g4, g5⟩⟩ := hc
      · exact ld_glob (X := X.suite a ((a, oe3) :: (X.pn ++ pins))) S3 g1 g3 q g2
      · exact ld_blt (X := X.suite a ((a, oe3) :: (X.pn ++ pins))) S3 g1 g3 g4 q g5 g2
    refine test (LM.here ?_)
    cases b with
    | true =>
      refine codeAny_handlers_suite_as ?_
      refine HandSPX.lands_againZ fl3 fun h4 fl4 up4 => ?_
      have J4 : Inv X pins σ' H' { s' with heap := h4 } := J.landed nb fl4.1 ((up.trans up3).trans up4) os ag
      obtain ⟨oe4, vs4, he4, hz4, hd4⟩ := fl4.there
      have S4 := J4.suite he4 hd4 na nL nF
      obtain ⟨C, rfl, rfl, go⟩ := yes rfl
      refine store_ok (X := X.suite a ((a, oe4) :: (X.pn ++ pins))) (v := .ref a) S4 hN hi hloc rfl (fun s5 S5 => ?_) (.inr hln)
      refine wpAny_mono ((hsu a oe4 (.ref C) none (X.pn ++ pins) hz4 ⟨_, hd4⟩).run [] s5 _ H' _ S5 (go a na)) (fun f s6 q => ?_) (fun _ _ z => False.elim z)
      cases f with
      | next =>
        obtain ⟨σ6, H6, S6, q6⟩ := q
        obtain ⟨p1, p2, _⟩ := S6.pin (a, oe4) (List.mem_append_left _ (List.mem_cons_self ..))
        have J6 := adopt (S6.unsuite ok) p1 hd4 hz4 p2 nL n0 nP
        show wpAny (model X.prog X.w) X.A (do bindName X.env n .none; unbindBehindTheSuite X.env n pos') _ _ _
        exact gone_ok J6 hN hi hln fun s7 J7 => ⟨_, _, J7, q6⟩
      | brk =>
        obtain ⟨σ6, H6, S6, q6⟩ := q
        exact q6.elim
      | cont =>
        obtain ⟨σ6, H6, S6, q6⟩ := q
        exact q6.elim
      | ret u =>
        obtain ⟨v6, σ6, H6, S6, r6, q6⟩ := q
        exact q6.elim
    | false =>
      show wpAny _ X.A (handleBy (.ref a) X.env []) _ _ _
      refine wpAny_handleBy_nil ?_
      obtain ⟨k1, k2, k3, oe, vs, T, oT, ts', he, hz, hd, h1, hr⟩ := id fl3
      unfold PySem.passOn
      refine wpAny_bind (wpAny_field he hd h1 ?_)
      rw [if_neg (show ¬ ((Value.ref T == Value.none) = true) from by simp)]
      have fin : wpAny (model X.prog X.w) X.A (setFlight (.ref a) X.env.frame) (fun _ s4 => wpAny (model X.prog X.w) X.A (throw (.ref a) : Sem Flow) (SP X pins D) X.xe s4) X.xe { s' with heap := h3 } := by
        rw [hfr0]
        refine HandSPX.setFlight_upZ fl3 fun h4 hh4 up4 => wpAny_throw (tk _ _ ?_)
        exact ⟨a, B, sI, pins, σ', H', cls, d, rfl, J, nb, (up.trans up3).trans up4, .inr (.inr (hst ▸ hh4)), na, os, ag, no rfl⟩
      first
        | exact wpAny_bind (wpAny_pure (wpAny_bind fin))
        | exact wpAny_bind fin
  · cases f with
    | next =>
      obtain ⟨σ', H', J', q⟩ := hsp
      exact wpAny_execs_nil ⟨σ', H', J'.ofTry ok, q⟩
    | brk =>
      obtain ⟨σ', H', J', q⟩ := hsp
      exact ⟨σ', H', J'.ofTry ok, q⟩
    | cont =>
      obtain ⟨σ', H', J', q⟩ := hsp
      exact ⟨σ', H', J'.ofTry ok, q⟩
    | ret u =>
      obtain ⟨v, σ', H', J', r, q⟩ := hsp
      exact ⟨v, σ', H', J'.ofTry ok, r, q⟩
end
/-! ### the def that calls what it got and keeps what is raised -/
theorem takes_len {X : Cx} {Wt : WX} (t : Takes X Wt) : Takes X (fun c d σ H => σ.length = X.N.length → Wt c d σ H) := fun u s' ⟨a, B, sI, pins, σ, H, cls, d, e, I, nb, up, sky, na, os, ag, z⟩ =>
  t u s' ⟨a, B, sI, pins, σ, H, cls, d, e, I, nb, up, sky, na, os, ag, z I.len⟩
def TKeep (K : PySem.W.Frag) (CS : Addr) : (XK → Hp → VK → Prop) → Hp → VK → Prop := fun tl H Q => ∀ Q' : Hp → Prop, (∀ H', Q .non H' → Q' H') →
  tl (fun cls d H' => ∃ b, PySem.W.exmOne K cls (.ref CS) = some b ∧ (b = true → ∃ C : Addr, cls = .ref C ∧ d = none ∧ ∀ a, H' a = none → Q (.ref a) (upd H' a (ExcO C a))) ∧ (b = false → False)) H (fun _ H' => Q' H')
theorem keep_gives {X : Cx} {x a n e m q : Str} {sg : Scope} {g CS : Addr} {cdg : Value} {p1 p2 p3 p4 p5 p6 p7 p8 p9 q1 q2 q3 q4 q5 q6 : Pos} {j : Nat} (ha : sg.names.lookup a = some .local) (hn : sg.names.lookup n = some .local) (he : sg.names.lookup e = some .local) (hm : sg.names.lookup m = some .globalImplicit)
    (hmm : X.mg m = some (.ref CS)) (hdm : (m == ("__debug__" : Str)) = false) (nd : [a, n, e].Nodup) (dn : (n == ("__debug__" : Str)) = false) (cn : (n == ("__classdict__" : Str)) = false) (de : (e == ("__debug__" : Str)) = false) (ce : (e == ("__classdict__" : Str)) = false) :
    LamX.GivesTo X [a, n, e] x sg g cdg [.Assign [.Name n p1] (.Constant .none j p2) p3, .Try [.Expr (.Call (.Name a p4) [] [] p5) p6] [.ExceptHandler (some (.Name m p7)) (some e) [.Assign [.Name n p8] (.Name e p9) q1] q2] [] [] q3, .Return (some (.Name n q4)) q5] a q (TKeep X.K CS) := by
  intro f c' s H Q tl act hc h
  have hgl : Gl (cxOf C8.CX0 X.prog X.w X.K X.mg X.base [a, n, e] x sg g cdg X.A X.stack s H C8.E0).nox m := hm
  refine ⟨_, pss_cons (ps_set (i := 1) nd rfl (.inl hn) pe_non rfl (.inl rfl)) (pss_cons (ps_try_keep (X := (cxOf C8.CX0 X.prog X.w X.K X.mg X.base [a, n, e] x sg g cdg X.A X.stack s H C8.E0).nox) (c := .ref CS) (i := 2)
      (tb := fun W D σ H => ∃ Ech : XK, (∀ cls d σ' H', Ech cls d H' → σ'.length = 3 → W cls d σ' H') ∧ σ[0]? = some (some (.ref f)) ∧ H c' = some (LamX.CodeO c' q) ∧ tl Ech H (fun _ H' => D.nx σ H'))
      rfl rfl rfl nd rfl he ⟨hgl, hdm, .inl hmm⟩ LamX.takes0 (fun W pn xe tk _ => ?_) (fun a' oe cls d pn _ _ => pss_one (ps_set (i := 1) nd rfl (.inl hn) (pe_var (i := 2) rfl (.inl he) de ce) rfl (.inr hn)))) (pss_one (ps_ret (pe_var (i := 1) rfl (.inl hn) dn cn)))), ?_⟩
  · refine ⟨fun pins s' σ H' D I h' => ?_⟩
    obtain ⟨Ech, hW, h1, h2, h3⟩ := h'
    have hp := act (fun c d σ H => σ.length = 3 → W c d σ H) pn xe Ech p4 p5 (takes_len tk) hW
    have hq := pss_one (ps_expr (pos := p6) hp (by rfl))
    exact hq.run pins s' σ H' D I ⟨h1, h2, h3⟩
  · refine ⟨fun cls d H' => ∃ b, PySem.W.exmOne X.K cls (.ref CS) = some b ∧ (b = true → ∃ C : Addr, cls = .ref C ∧ d = none ∧ ∀ a, H' a = none → Q (.ref a) (upd H' a (ExcO C a))) ∧ (b = false → False), fun cls d σ' H' ⟨b, e1, e2, e3⟩ hl => ⟨b, e1, fun hb => ?_, fun hb => e3 hb⟩, rfl, hc, ?_⟩
    · obtain ⟨C, rfl, rfl, go⟩ := e2 hb
      refine ⟨C, rfl, rfl, fun a' na => ?_⟩
      match σ', hl with
      | [y0, y1, y2], _ => exact ⟨.ref a', rfl, .ref a', rfl, go a' na⟩
    · exact h _ fun H' hq => ⟨.non, rfl, hq⟩
end TL
end
end

-- text TlZ2
section
set_option maxHeartbeats 4000000
set_option autoImplicit false
noncomputable section
namespace LamX
open PySem PySem.Spec PyProof.Rows L2
/-- all but the tables stay, nothing goes -/
def LE (H H' : Hp) : Prop := ExtN H H' ∧ ∀ b o, H b = some o → ∃ o', H' b = some o'
theorem LE.refl (H : Hp) : LE H H := ⟨ExtN.refl H, fun _ o e => ⟨o, e⟩⟩
section
variable {X : Cx} {pins : List (Addr × Obj)} {σ : L2.St} {H : Hp} {s : Shared}
theorem lam_make3 {T : List (Addr × Str)} {c P : Addr} {params : Arguments} {body : Expr} {scope : Scope} {pos : Pos} {E : Value → Shared → Prop} {Q : Value → Shared → Prop} (Iv : Inv X pins σ H s) (TBl : TabB X.base X.mg c P) (gcode : X.env.code = .ref c)
    (gm : (P, X.env.qual ++ "<lambda>") ∈ T) (gu : ∀ p ∈ T, p.1 = P → p.2 = X.env.qual ++ "<lambda>") (gT : Tabs T H) (gdef : defaultsOf params X.env = ([], [])) (gfree : ∀ y ∈ scope.names, y.2 = .free → ∃ c, X.env.cells.lookup y.1 = some c)
    (go : ∀ (f c' : Addr) (pm ctv : Value) (H1 : Hp) (s' : Shared), Inv X pins σ H1 s' → LE H H1 → Tabs T H1 →
      s'.heap.get? f = some (PySem.W.kla_obj "<lambda>" (X.env.qual ++ "<lambda>") params body scope (cloFrom X.env.cells scope.names []) pm c' ctv) → H1 f = none → f ∉ frs X.stack → H1 c' = some (CodeO c' (X.env.qual ++ "<lambda>")) → Q (.ref f) s') :
    wpAny (model X.prog X.w) X.A (eval (.Lambda params body scope pos) X.env) Q E s := by
  obtain ⟨tp, eP, gt, ga⟩ := gT _ gm
  refine PySem.W.kla_eval gdef ?_
  have bQ : s.heap.BuiltinsAt X.mg P := TBl.bm.keeps Iv.bk
  have eP' : s.heap.get? P = some { cls := .none, data := .fields tp } := Iv.hok P _ eP
  have nofrm : ∀ f, s.heap.objs.size ≤ f → f ∉ frs X.stack := fun f hf z => by
    rcases List.mem_cons.mp (Iv.stkSub _ z) with e | e
    · have h1 := Iv.lt
      rw [← e] at h1
      exact Nat.lt_irrefl _ (Nat.lt_of_lt_of_le h1 hf)
    · exact Iv.nofs hf e
  cases gc : codeAmong pos tp.toList with
  | none =>
    refine PySem.W.kla_makeFunction (mg := X.mg) (c := c) (P := P) (ps := tp) (closure_ok gfree) Iv.ok.glob (Iv.mod.glob.keeps Iv.bk) gcode (TBl.code.keeps Iv.bk) eP' gt gc TBl.gP bQ fun c' ctv h' tk gx gge glt grec gtb => ?_
    obtain ⟨c2, oc, vs, t, e2, goc, gd, gv⟩ := grec
    cases e2
    have gsz : s.heap.objs.size ≤ h'.objs.size := Nat.le_trans gge (Nat.le_of_lt glt)
    have fC : H c' = none := Iv.hok.fresh gge
    have Iw := inv_table (t' := tk) (more := #[rawInt pos.line, rawInt pos.col, .ref c']) (h' := h'.push (PySem.W.kla_obj "<lambda>" (X.env.qual ++ "<lambda>") params body scope (cloFrom X.env.cells scope.names []) ((X.mg "__name__").getD .none) c' ctv)) Iv eP
      (fun b o hb e => Heap.get?_push_of_some _ (gx b o hb e)) (Heap.get?_push_of_some _ gtb) gge ⟨oc, vs, t, Heap.get?_push_of_some _ goc, gd, gv⟩
    have gE : LE H (upd (upd H P (.tbl (tp ++ #[rawInt pos.line, rawInt pos.col, .ref c']))) c' (CodeO c' (X.env.qual ++ "<lambda>"))) := ⟨fun b o e n => by
      rw [upd_ne (ne_of_none e fC), upd_ne (fun z => n tp (Option.some.inj (e.symm.trans (by rw [z]; exact eP))))]
      exact e, fun b o e => by
      rw [upd_ne (ne_of_none e fC)]
      by_cases q : b = P
      · exact ⟨_, by rw [q, upd_same]⟩
      · exact ⟨o, by rw [upd_ne q]; exact e⟩⟩
    have gL : (tp ++ #[rawInt pos.line, rawInt pos.col, .ref c']).toList = tp.toList ++ [rawInt pos.line, rawInt pos.col, .ref c'] := by simp
    refine go h'.objs.size c' ((X.mg "__name__").getD .none) ctv _ _ Iw gE (fun p hp => ?_) (Heap.get?_push_size _ rfl) ?_ (nofrm _ gsz) upd_same
    · by_cases hb : p.1 = P
      · rw [gu p hp hb, hb]
        refine ⟨_, by rw [upd_ne (ne_of_none eP fC), upd_same], by rw [gL]; exact PySem.TriplesOk_snoc _ _ _ _ gt, fun p' cv gcv => ?_⟩
        rw [gL] at gcv
        rcases among_app _ gt gcv with z | z
        · obtain ⟨c0, e1, e2⟩ := ga p' cv z
          exact ⟨c0, e1, gE.1 _ _ e2 codeO_ne⟩
        · exact ⟨c', z, upd_same⟩
      · obtain ⟨ps', a1, a2, a3⟩ := gT p hp
        refine ⟨ps', by rw [upd_ne (ne_of_none a1 fC), upd_ne hb]; exact a1, a2, fun p' cv gcv => ?_⟩
        obtain ⟨c0, e1, e2⟩ := a3 p' cv gcv
        exact ⟨c0, e1, gE.1 _ _ e2 codeO_ne⟩
    · have n1 : h'.objs.size ≠ c' := Nat.ne_of_gt glt
      have n2 : h'.objs.size ≠ P := Nat.ne_of_gt (Nat.lt_of_lt_of_le (Heap.lt_size eP') gsz)
      rw [upd_ne n1, upd_ne n2]
      exact Iv.hok.fresh gsz
  | some cv =>
    obtain ⟨c', e, gco⟩ := ga pos cv gc
    subst e
    refine PySem.W.kla_makeFunctionHit (mg := X.mg) (c := c) (P := P) (ps := tp) (closure_ok gfree) Iv.ok.glob (Iv.mod.glob.keeps Iv.bk) gcode (TBl.code.keeps Iv.bk) eP' gt gc bQ fun ctv h' tk gx gsz => ?_
    have Iw : Inv X pins σ H { s with heap := h'.push (PySem.W.kla_obj "<lambda>" (X.env.qual ++ "<lambda>") params body scope (cloFrom X.env.cells scope.names []) ((X.mg "__name__").getD .none) c' ctv), toks := tk } := Iv.kept fun b o e => Heap.get?_push_of_some _ (gx b o e)
    exact go h'.objs.size c' ((X.mg "__name__").getD .none) ctv H _ Iw (LE.refl H) gT (Heap.get?_push_size _ rfl) (Iv.hok.fresh gsz) (nofrm _ gsz) gco
end
def tLam3 (T : List (Addr × Str)) (TT : (XK → Hp → VK → Prop) → Hp → VK → Prop) (t : XK → TE) : TE := fun σ H Q => Tabs T H ∧ ∀ H1, LE H H1 → Tabs T H1 → TT (fun E H' Q' => t E σ H' Q') H1 Q
section
variable {X : Cx}
theorem pe_lamcall3 {T : List (Addr × Str)} {TT : (XK → Hp → VK → Prop) → Hp → VK → Prop} {x a : Str} {g c P : Addr} {k : Nat} {pg : Arguments} {bg : List Stmt} {sg : Scope} {dV kV doc pm cdv ct oc : Value} {an od : Option Addr} {osl : Array (Option Value)} {Ng : List Str}
    {params : Arguments} {body : Expr} {scope : Scope} {t : XK → TE} {p lpos pos : Pos} (gg : Gl X x) (gm : X.mg x = some (.ref g)) (gk : PySem.W.keepIn X.K (.ref g) = true)
    (lkp : X.K.lookup g = some ⟨oc, od, .func (PySem.W.fnOf x x pg bg sg dV kV doc pm an cdv ct), osl⟩) (gcg : PySem.W.codeIn X.K cdv x = true) (gb : L2.Binds X.K (PySem.W.fnOf x x pg bg sg dV kV doc pm an cdv ct) [a] []) (Sgs : FnScope Ng [a] sg) (gNg : Ng[0]? = some a) (gva : Vis sg a)
    (gG : GivesTo X Ng x sg g cdv bg a (X.env.qual ++ "<lambda>") TT)
    (TBl : TabB X.base X.mg c P) (gcode : X.env.code = .ref c) (gmT : (P, X.env.qual ++ "<lambda>") ∈ T) (gu : ∀ p ∈ T, p.1 = P → p.2 = X.env.qual ++ "<lambda>") (gr : Room (k + 2) X.A) (Ls : LamS X.env.scope scope) (gdef : defaultsOf params X.env = ([], []))
    (gbind : ∀ (q : Str) (cl : List (Str × Addr)) (pm cv ctv : Value), bindArgs (PySem.W.kla_fn "<lambda>" q params body scope cl pm cv ctv) ⟨[], []⟩ = pure [])
    (gbody : ∀ (A : Around) (outer : List Env) (s : Shared) (H : Hp) (E : XK) (f c' : Addr), Room k (A.deeper (lamEnv X scope s.heap.objs.size f c')) → PE (lamCx X A outer s H E scope f c') body (t E))
    (gdb : (x == ("__debug__" : Str)) = false := by decide) (gd : (a == ("__debug__" : Str)) = false := by decide) (gcd0 : (a == ("__classdict__" : Str)) = false := by decide) :
    PE X (.Call (.Name x p) [.Lambda params body scope lpos] [] pos) (tLam3 T TT t) := by
  refine ⟨fun pins s σ H Q Iv go => ?_⟩
  obtain ⟨gT, go⟩ := go
  refine wpAny_Call_Name_kw (ld_glob Iv gg gm ?_ gdb)
  refine PySem.W.callWith_K (h₀ := X.base) Iv.ok.mod.kin gk ?_ (by rfl) (by rfl)
  show wpAny _ _ (spliced ((false, eval (.Lambda params body scope lpos) X.env) :: backTo pos (starEach [] X.env))) _ _ s
  refine Calls.spliced_cons (lam_make3 Iv TBl gcode gmT gu gT gdef (Ls.has Iv.ok) fun f c' pm' ctv H1 s' Iw eNx Tx gf gfn gfr gco => ?_)
  refine Calls.spliced_nil ⟨Iw.kIn, ?_⟩
  have rcall : codeAny (model X.prog X.w) X.A (.call (.ref g) ⟨[.ref f], []⟩) (CR C8.CX0 X.stack X.prog X.w H1 s' Q C8.E0) s' := by
    refine run_ofS (N := Ng) (ps := [a]) (us := [.ref f]) (vs := [.ref f]) lkp gcg Sgs gr Iw.env0 (gb s' [.ref f] Iw.kIn rfl) (.cons rfl .nil) rfl fun hr' => ?_
    obtain ⟨t', ht', hq'⟩ := gG f c' s' H1 Q (fun E H' Q' => t E σ H' Q') (fun W pn xe E p1 p2 tk hW => pe_act (i := 0) Iw Ls gf gfn gfr (gbind _ _ _ _ _) tk hW hr' (fun A outer s H hr2 => gbody A outer s H E f c' hr2) gNg gva gd gcd0) gco (go H1 eNx Tx)
    exact ⟨t', ht'.nox, hq'⟩
  refine wpAny_call (codeAny_mono rcall fun r s2 gq => ?_)
  cases r with
  | error e => exact (show False from gq).elim
  | ok fl =>
    cases fl with
    | ret u => exact Iw.after gq
    | next => exact False.elim gq
    | brk => exact False.elim gq
    | cont => exact False.elim gq
end
end LamX
end
end

-- text TlZ3
section
set_option maxHeartbeats 4000000
set_option autoImplicit false
noncomputable section
namespace TL
open PySem PySem.Spec L2
open PyProof.Rows hiding St
/-! ### isinstance(caught(lambda: ..), C) -/
def rIsX (K : PySem.W.Frag) : List V → Hp → VK → Prop := fun xs H Q => ∃ (a C D : Addr) (b : Bool), xs = [.ref a, .ref D] ∧ H a = some (ExcO C a) ∧ ExcC K C ∧ PySem.W.kitOne K (.ref C) (.ref D) = some b ∧ Q (.bl b) H
theorem call_isX {X : Cx} : CallR X (.builtin "isinstance") (rIsX X.K) := by
  intro pins s σ H xs us Q I r h
  obtain ⟨a, C, D, b, rfl, ha, hC, e, q⟩ := h
  cases r with
  | cons rx rr =>
    cases rr with
    | cons rt rr =>
      cases rr
      cases rx
      cases rt
      obtain ⟨⟨oe, vs, hget, hz, hv⟩, _, _⟩ := I.hok a _ ha
      have J : PySem.W.InstAt s.heap a oe C none := by
        obtain ⟨oc, od, oda, osl⟩ := oe
        obtain ⟨h1, h2⟩ := hz
        dsimp only at h1 h2 hv
        subst h1 h2 hv
        exact ⟨hget, rfl, rfl, trivial⟩
      exact PySem.W.kia_one (PySem.W.handS_kitx_exc hC.hg hC.hk hC.hs hC.hd hC.ha hC.hn hC.ht hC.hm) I.kIn J e (fun z => nomatch z) fun tk => ⟨.bl b, H, I.kept (t' := tk) fun _ _ z => z, rfl, q⟩
def caughtE (exs : List Str) (y : Str) (f : Ev → Mo D) (env : Ev) : Mo D := fun g => match f env g with
  | .exc c g' => if c = y ∧ c ∈ exs then .ok (.bl true) g' else .stuck
  | _ => .stuck
def noSc : Scope := { kind := .function, names := [], isGenerator := false, isCoroutine := false }
def lamC (cs : Cs) (scope : Scope) : Cs := { N := cs.N, sc := scope, blk := some noSc, hint := [], code := false }
def hkN : Hk := ⟨fun _ => false, fun _ _ _ _ => Mo.fail⟩
theorem hkN_ok {gt : Gt} {W : Wd} {k : Nat} : HkOk gt W k hkN := fun r hr E X cs c e h => by cases h
def hkC (gt0 : Gt) (m : Nat) (cg : Str) (exs : List Str) : Hk where
  is e := match e with
    | .Call (.Name x _) [.Call (.Name y _) [.Lambda ..] [] _, .Name _ _] [] _ => decide (x = "isinstance") && decide (y = cg)
    | _ => false
  f _ cs e := match e with
    | .Call (.Name x _) [.Call (.Name y _) [.Lambda ⟨[], [], none, [], [], none, []⟩ body scope _] [] _, .Name z _] [] _ =>
      if (decide (x = "isinstance") && decide (y = cg) && gloB cs.sc x && gloB cs.sc y && gloB cs.sc z && nmB z && nmB cg && LamX.lamSB cs.sc scope && decide (z ∈ exs) && cs.code) = true then caughtE exs z ((cmp gt0 hkN m).e (lamC cs scope) body) else fun _ => Mo.fail
    | _ => fun _ => Mo.fail
/-- what is asked of the def that catches, of the classes, of the maker's code -/
structure CgF (gt0 : Gt) (k0 : Nat) (cg : Str) (exs : List Str) (W : Wd) (P : Program) (w : World) (K : PySem.W.Frag) (mg : Str → Option Value) (base : Heap) (k : Nat) (code : Value) (qual : Str) : Prop where
  lev : k0 + 2 ≤ k
  gl : GlP W P w K mg base k0 gt0
  isi : mg "isinstance" = none
  tab : ∃ c Pt, code = .ref c ∧ LamX.TabB base mg c Pt ∧ (Pt, qual ++ "<lambda>") ∈ W.T ∧ ∀ p ∈ W.T, p.1 = Pt → p.2 = qual ++ "<lambda>"
  fn : ∃ (g CS : Addr) (a n e : Str) (pg : Arguments) (bg : List Stmt) (sg : Scope) (dV kV doc pm cdv ct oc : Value) (an od : Option Addr) (osl : Array (Option Value)), mg cg = some (.ref g) ∧ PySem.W.keepIn K (.ref g) = true ∧
    K.lookup g = some ⟨oc, od, .func (PySem.W.fnOf cg cg pg bg sg dV kV doc pm an cdv ct), osl⟩ ∧ PySem.W.codeIn K cdv cg = true ∧ L2.Binds K (PySem.W.fnOf cg cg pg bg sg dV kV doc pm an cdv ct) [a] [] ∧ FnScope [a, n, e] [a] sg ∧ Vis sg a ∧
    (a == ("__debug__" : Str)) = false ∧ (a == ("__classdict__" : Str)) = false ∧ (∀ (X : Cx) (q : Str), X.mg = mg → LamX.GivesTo X [a, n, e] cg sg g cdv bg a q (TKeep X.K CS)) ∧
    ∀ x, x ∈ exs → ∃ C, mg x = some (.ref C) ∧ ExcC K C ∧ PySem.W.kitOne K (.ref C) (.ref C) = some true ∧ PySem.W.exmOne K (.ref C) (.ref CS) = some true
theorem ext_LE {W : Wd} {F : Fz} {g : G} {H H1 : Hp} (w : Wf W F g H) (l : LamX.LE H H1) (t : LamX.Tabs W.T H1) : Ext W F g H F g H1 where
  kp := fun b o e _ n => l.1 b o e n
  fs := fun _ h => h
  fn := fun _ h => .inl h
  mn := fun _ h => .inl h
  th := fun b o e => l.2 b o e
  wf := ⟨fun b f => let ⟨o, e⟩ := w.al b f; l.2 b o e, w.nm, by
      cases g with
      | none => trivial
      | some t =>
        obtain ⟨h1, h2, h3, h4⟩ := w.ok
        exact ⟨l.1 _ _ h1 (fun _ z => by cases z), l.1 _ _ h2 (fun _ z => by cases z), l.1 _ _ h3 (fun _ z => by cases z), h4⟩, t⟩
section
variable {W : Wd} {X : Cx} {E : XK} {k : Nat} {gt0 : Gt} {cs : Cs}
theorem cx_lam {k0 : Nat} {A : Around} {outer : List Env} {s : Shared} {H : Hp} {scope : Scope} {f c' : Addr} (hK : X.K = W.K) (hm : X.mg = W.mg) (hN : X.N = cs.N) (nd : cs.N.Nodup) (gl : GlP W X.prog X.w X.K X.mg X.base k0 gt0)
    (hr : Room k0 (A.deeper (LamX.lamEnv X scope s.heap.objs.size f c'))) : CxOk W gt0 k0 E (LamX.lamCx X A outer s H E scope f c') (lamC cs scope) := by
  have tk : Takes (LamX.lamCx X A outer s H E scope f c') (fun cls d _ H => E cls d H) := takes_of rfl rfl rfl rfl
  exact
  { K := hK
    mg := hm
    N := hN
    nd := nd
    sc := rfl
    calm := rfl
    fn := fun x h => by
      have h : (decide (scope.names.lookup x = some .local) || (([] : List (Str × NameKind)).lookup x == some .cell)) = true := h
      rw [show (([] : List (Str × NameKind)).lookup x == some .cell) = false from rfl, Bool.or_false] at h
      exact .inr (of_decide_eq_true h)
    room := hr
    ps := passes_call tk fun _ _ _ _ h => h
    gl := gl
    cd := fun e => by cases e }
theorem de_caught {gt : Gt} {exs : List Str} {cg z : Str} {k0 m : Nat} {p0 p1 p2 p3 p4 lp : Pos} {body : Expr} {scope : Scope} (c : CxOk W gt k E X cs)
    (cf : CgF gt0 k0 cg exs W X.prog X.w X.K X.mg X.base k X.env.code X.env.qual) (g1 : gloB cs.sc "isinstance" = true) (g2 : gloB cs.sc cg = true) (g3 : gloB cs.sc z = true) (nz : nmB z = true) (ng : nmB cg = true) (L : LamX.lamSB cs.sc scope = true) (hz : z ∈ exs) :
    PE X (.Call (.Name "isinstance" p0) [.Call (.Name cg p1) [.Lambda ⟨[], [], none, [], [], none, []⟩ body scope lp] [] p2, .Name z p3] [] p4) (tE W E (caughtE exs z ((cmp gt0 hkN m).e (lamC cs scope) body))) := by
  have cK := c.K
  have cM := c.mg
  have cN := c.N
  have nd := c.nd
  have csc := c.sc
  have room := c.room
  obtain ⟨ca, Pt, e1, TB, mT, uT⟩ := cf.tab
  obtain ⟨g, CS, a, n, e, pg, bg, sg, dV, kV, doc, pm, cdv, ct, oc, an, od, osl, f1, f2, f3, f4, f5, f6, f7, f8, f9, f10, f11⟩ := cf.fn
  obtain ⟨C, i1, i2, i3, i4⟩ := f11 z hz
  obtain ⟨d1, d2, d3⟩ := nmB_ok nz
  obtain ⟨d4, d5, d6⟩ := nmB_ok ng
  have sn := cmp_ok (W := W) (gt := gt0) (k := k0) hkN_ok m
  have pL := LamX.pe_lamcall3 (X := X) (T := W.T) (params := ⟨[], [], none, [], [], none, []⟩) (body := body) (scope := scope) (p := p1) (lpos := lp) (pos := p2) (t := fun E' => tE W E' ((cmp gt0 hkN m).e (lamC cs scope) body)) (k := k0) (gloB_ok (by rw [csc]; exact g2)) f1 f2 f3 f4 f5 f6 rfl f7 (f10 X _ rfl) TB e1 mT uT
    (room.mono cf.lev) (LamX.lamS_by (by rw [csc]; exact L)) rfl (fun _ _ _ _ _ => rfl) (fun A outer s H E' f c' hr => (sn E' _ _ (cx_lam cK cM cN nd cf.gl hr)).1 body) d4 f8 f9
  refine (pe_callB call_isX (gloB_ok (by rw [csc]; exact g1)) cf.isi (by decide +kernel) (pa_cons pL (pa_cons (pe_glob (gloB_ok (by rw [csc]; exact g3)) i1 (v := .ref C) rfl d1) pa_nil)) (by decide) (by decide)).imp fun σ H Q ⟨F, gg, env, s, p⟩ => ?_
  refine ⟨by
    have := s.wf.tb
    exact this, fun H1 le t1 => ?_⟩
  have x1 := ext_LE s.wf le t1
  intro Q' hQ'
  refine ⟨F, gg, env, s.ext x1, ?_⟩
  unfold caughtE at p
  cases q : (cmp gt0 hkN m).e (lamC cs scope) body env gg with
  | ok _ _ => simp only [q] at p; exact p.elim
  | stuck => simp only [q] at p; exact p.elim
  | exc c g' =>
    simp only [q] at p
    by_cases hh : c = z ∧ c ∈ exs
    · rw [if_pos hh] at p
      obtain ⟨rfl, _⟩ := hh
      intro F' H' x2 C' hC'
      rw [← cM, i1] at hC'
      cases hC'
      refine ⟨true, i4, fun _ => ⟨C, rfl, rfl, fun a' na => ?_⟩, fun z => by cases z⟩
      have x3 := Ext.newT (o := ExcO C a') x2.wf na
      exact ⟨a', C, C, true, rfl, upd_same, i2, i3, p F' _ ((x1.trans x2).trans x3) _ (.bl true)⟩
    · rw [if_neg hh] at p
      exact p.elim
theorem hkC_ok {gt gt1 : Gt} {exs : List Str} {cg : Str} {k0 m : Nat} (hax : gt.ax = CgF gt1 k0 cg exs) : HkOk gt W k (hkC gt1 m cg exs) := by
  intro r hr E X cs c e he
  show PE X e (tE W E ((hkC gt1 m cg exs).f r cs e))
  unfold hkC
  simp only
  split
  · rename_i x p0 y p1 body scope lp p2 z p3 p4
    refine iteE fun h => ?_
    simp only [Bool.and_eq_true, decide_eq_true_eq] at h
    obtain ⟨⟨⟨⟨⟨⟨⟨⟨⟨rfl, rfl⟩, h3⟩, h4⟩, h5⟩, h6⟩, h7⟩, h8⟩, h9⟩, h10⟩ := h
    have cf := c.cd h10
    rw [hax] at cf
    exact de_caught c cf h3 h4 h5 h6 h7 h8 h9
  · exact pe_no
end
end TL
end
end

-- text TlY
section
set_option maxHeartbeats 4000000
set_option autoImplicit false
noncomputable section
namespace TL
open PySem PySem.Spec L2
open PyProof.Rows hiding St
/-! ### running it on data -/
@[simp] theorem mo_pure_bind {α β : Type} (a : α) (f : α → Mo β) : ((pure a : Mo α) >>= f) = f a := id rfl
@[simp] theorem mo_assoc {α β γ : Type} (m : Mo α) (f : α → Mo β) (h : β → Mo γ) : ((m >>= f) >>= h) = (m >>= fun a => f a >>= h) := by
  funext g
  show (match (match m g with
    | .ok a g' => f a g'
    | .exc c g' => .exc c g'
    | .stuck => .stuck) with
    | .ok a g' => h a g'
    | .exc c g' => .exc c g'
    | .stuck => .stuck) = (match m g with
    | .ok a g' => (f a >>= h) g'
    | .exc c g' => .exc c g'
    | .stuck => .stuck)
  cases m g <;> rfl
@[simp] theorem mo_bind_pure {α : Type} (m : Mo α) : (m >>= fun a => (pure a : Mo α)) = m := by
  funext g
  show (match m g with
    | .ok a g' => .ok a g'
    | .exc c g' => .exc c g'
    | .stuck => .stuck) = m g
  cases m g <;> rfl
@[simp] theorem mo_fail_bind {α β : Type} (f : α → Mo β) : ((Mo.fail : Mo α) >>= f) = Mo.fail := id rfl
@[simp] theorem mo_raise_bind {α β : Type} (c : Str) (f : α → Mo β) : ((Mo.raise c : Mo α) >>= f) = Mo.raise c := id rfl
@[simp] theorem mo_some {α : Type} (a : α) : Mo.of (some a) = pure a := id rfl
@[simp] theorem mo_none {α : Type} : (Mo.of none : Mo α) = Mo.fail := id rfl
@[simp] theorem mo_ite_bind {α β : Type} (c : Prop) [Decidable c] (a b : Mo α) (f : α → Mo β) : ((if c then a else b) >>= f) = if c then a >>= f else b >>= f := by
  by_cases h : c
  · rw [if_pos h, if_pos h]
  · rw [if_neg h, if_neg h]
@[simp] theorem gs_zero (d : D) (e : Ev) : getS (.dat d :: e) 0 = some d := id rfl
@[simp] theorem gs_succ (s : Sl) (e : Ev) (i : Nat) : getS (s :: e) (i + 1) = getS e i := by
  unfold getS
  rw [List.getElem?_cons_succ]
/-! words -/
section
variable (env : Ev) (fa fb fc : Ev → Mo D) (ta tb : Ev → Mo Bool) (sa sb : Ev → Mo (Fl × Ev)) (fs gs : Ev → Mo (List D)) (i j : Nat) (d : D)
@[simp] theorem u_eV : eV i env = Mo.of (getS env i) := id rfl
@[simp] theorem u_eC : eC d env = pure d := id rfl
@[simp] theorem u_eO (f : D → D → Mo D) : eO f fa fb env = (do let a ← fa env; let b ← fb env; f a b) := id rfl
@[simp] theorem u_eAnd : eAnd fa fb env = (do let a ← fa env; let k ← truD a; if k = true then fb env else pure a) := id rfl
@[simp] theorem u_eOr : eOr fa fb env = (do let a ← fa env; let k ← truD a; if k = true then pure a else fb env) := id rfl
@[simp] theorem u_tAnd : tAnd ta tb env = (do let k ← ta env; if k = true then tb env else pure false) := id rfl
@[simp] theorem u_tOr : tOr ta tb env = (do let k ← ta env; if k = true then pure true else tb env) := id rfl
@[simp] theorem u_tYes : tYes env = pure true := id rfl
@[simp] theorem u_eNil : eNil env = pure [] := id rfl
@[simp] theorem u_eCons : eCons fa fs env = (do let a ← fa env; let as ← fs env; pure (a :: as)) := id rfl
@[simp] theorem u_eN : eN env = pure none := id rfl
@[simp] theorem u_eS : eS fa env = (do let a ← fa env; Mo.of (intO a)) := id rfl
@[simp] theorem u_cmE (op : CmpOp) : cmE op fa fb env = (do let a ← fa env; let b ← fb env; cmF op a b) := id rfl
@[simp] theorem u_chE (op op' : CmpOp) : chE op op' fa fb fc env = (do let a ← fa env; let b ← fb env; let k ← toB (← cmF op a b); if k = true then (do let c ← fc env; cmF op' b c) else pure (.bl false)) := id rfl
@[simp] theorem u_tstB : tstB fa env = (do let d ← fa env; toB d) := id rfl
@[simp] theorem u_notT : notT ta env = (do let b ← ta env; pure (!b)) := id rfl
@[simp] theorem u_notE : notE fa env = (do let d ← fa env; let k ← truD d; pure (.bl (!k))) := id rfl
@[simp] theorem u_truT : truT fa env = (do let d ← fa env; truD d) := id rfl
@[simp] theorem u_iteM {α : Type} (xa xb : Ev → Mo α) : iteM ta xa xb env = (do let k ← ta env; if k = true then xa env else xb env) := id rfl
@[simp] theorem u_tupE : tupE fs env = (do let as ← fs env; mkTup as) := id rfl
@[simp] theorem u_mlsE : mlsE fs env = (do let as ← fs env; mkLst as) := id rfl
@[simp] theorem u_ixE : ixE fa fb env = (do let a ← fa env; let b ← fb env; ixD a b) := id rfl
@[simp] theorem u_slE (fl fh : Ev → Mo (Option Int)) : slE fa fl fh env = (do let a ← fa env; let l ← fl env; let u ← fh env; slD a l u) := id rfl
@[simp] theorem u_backE : backE fa env = (do let d ← fa env; backD d) := id rfl
@[simp] theorem u_negE : negE fa env = (do let d ← fa env; negD d) := id rfl
@[simp] theorem u_callE (f : List D → Mo D) : callE f fs env = (do let as ← fs env; f as) := id rfl
@[simp] theorem u_kwE (n m : Nat) (ix : List Nat) (run : List D → Mo D) : kwE n m ix run fs gs env = (do let as ← fs env; let bs ← gs env; kwRun n m ix run as bs) := id rfl
@[simp] theorem u_kw0E (m : Nat) (ix : List Nat) (run : List D → Mo D) : kw0E m ix run gs env = (do let bs ← gs env; kwRun 0 m ix run [] bs) := id rfl
@[simp] theorem u_isi2E (S T : String) : isi2E S T fa env = (do let d ← fa env; Mo.of ((isi2O S T d).map D.bl)) := id rfl
@[simp] theorem u_isiE (T : String) : isiE T fa env = (do let d ← fa env; Mo.of ((isiO T d).map D.bl)) := id rfl
@[simp] theorem u_joinE : joinE fa fb env = (do let s ← fa env; joinD s (fb env)) := id rfl
@[simp] theorem u_lstE : lstE fs env = (do let ys ← fs env; pure (.lst ys)) := id rfl
@[simp] theorem u_seqI : seqI fa env = (do let d ← fa env; itemsD d) := id rfl
@[simp] theorem u_rngI (n : Nat) : rngI n fs env = (do let as ← fs env; rngD n as) := id rfl
@[simp] theorem u_zipI : zipI fs env = (do let as ← fs env; zipD as) := id rfl
@[simp] theorem u_nLst : nLst fs env = (do let as ← fs env; if as.length ≤ lim then pure as else Mo.fail) := id rfl
@[simp] theorem u_lcC (ft : D → Ev → Option Ev) (vs : List Nat) : lcC ft ta fa vs fs env = (do let ds ← fs env; compGo (compOne ft ta fa (wipeE env vs)) ds) := id rfl
@[simp] theorem u_bE : bE fa env = borrow (fa (frzE env)) := id rfl
@[simp] theorem u_bT : bT ta env = ta (frzE env) := id rfl
@[simp] theorem u_sNx : sNx env = pure (.nx, env) := id rfl
@[simp] theorem u_sRt : sRt fa env = (do let d ← fa (frzE env); pure (.ret d, env)) := id rfl
@[simp] theorem u_sRn : sRn env = pure (.ret .non, env) := id rfl
@[simp] theorem u_sEx : sEx fa env = (do let _ ← fa env; pure (.nx, env)) := id rfl
@[simp] theorem u_sSet : sSet i fa env = (do let d ← fa env; pure (.nx, env.set i (.dat d))) := id rfl
@[simp] theorem u_sNew : sNew i fs env = (do let ds ← fs env; pure (.nx, env.set i (.cel ds))) := id rfl
@[simp] theorem u_sLcD : sLcD i fs env = (do let ds ← fs env; pure (.nx, env.set i (.dat (.lst ds)))) := id rfl
@[simp] theorem u_sAsg (ft : D → Ev → Option Ev) : sAsg ft fa env = (do let d ← fa env; let env' ← Mo.of (ft d env); pure (.nx, env')) := id rfl
@[simp] theorem u_sPar : sPar i j fs env = (do let ds ← fs env; two ds fun a b => (env.set i (.dat a)).set j (.dat b)) := id rfl
@[simp] theorem u_parC : parC i j fs fa env = (do let xs ← fs env; let d ← fa env; pure (.nx, (env.set i (.cel xs)).set j (.dat d))) := id rfl
@[simp] theorem u_two (a b : D) (f : D → D → Ev) : two [a, b] f = pure (.nx, f a b) := id rfl
@[simp] theorem u_sFor (ft : D → Ev → Option Ev) : sFor ft fs sa env = (do let ds ← fs env; forGo ft sa ds env) := id rfl
@[simp] theorem u_sRaise (c : Str) : sRaise c env = Mo.raise c := id rfl
@[simp] theorem u_apE : apE i fa env = (do let xs ← Mo.of (celO env i); let d ← fa env; if xs.length ≤ lim then pure (.nx, env.set i (.cel (xs ++ [d]))) else Mo.fail) := id rfl
@[simp] theorem u_exE : exE i fa env = (do let xs ← Mo.of (celO env i); let d ← fa env; let ys ← Mo.of (lstD d); if xs.length + ys.length ≤ lim then pure (.nx, env.set i (.cel (xs ++ ys))) else Mo.fail) := id rfl
@[simp] theorem u_poE (ft : D → Ev → Option Ev) : poE i ft env = (do let xs ← Mo.of (celO env i); let d ← Mo.of (xs[xs.length - 1]?); let env' ← Mo.of (ft d (env.set i (.cel xs.dropLast))); pure (.nx, env')) := id rfl
@[simp] theorem u_asgN : asgN i d env = some (env.set i (.dat d)) := id rfl
@[simp] theorem u_asgNil : asgNil [] env = some env := id rfl
@[simp] theorem u_asgCons (f : D → Ev → Option Ev) (h : List D → Ev → Option Ev) (ds : List D) : asgCons f h (d :: ds) env = (f d env).bind (h ds) := id rfl
@[simp] theorem u_asgT (n : Nat) (h : List D → Ev → Option Ev) (xs : List D) : asgT n h (.tup xs) env = if xs.length = n then h xs env else none := id rfl
@[simp] theorem u_cel0 (xs : List D) (e : Ev) : celO (.cel xs :: e) 0 = some xs := id rfl
@[simp] theorem u_celS (s : Sl) (e : Ev) : celO (s :: e) (i + 1) = celO e i := by
  unfold celO
  rw [List.getElem?_cons_succ]
theorem u_seqM : seqM sa sb env = (do
  let r ← sa env
  match r with
  | (.nx, env') => sb env'
  | r => pure r) := id rfl
@[simp] theorem seq_nx (m : Mo D) (k : D → Ev) : ((m >>= fun d => (pure (Fl.nx, k d) : Mo (Fl × Ev))) >>= fun r => (match r with
  | (.nx, env') => sb env'
  | r => pure r)) = (m >>= fun d => sb (k d)) := by
  rw [mo_assoc] <;> rfl
theorem u_runB (b : Ev → Mo (Fl × Ev)) (n : Nat) (ds : List D) : runB b n ds = (b (envOf n ds) >>= fun r => match r.1 with
  | .ret d => pure d
  | .nx => pure .non
  | _ => Mo.fail) := id rfl
@[simp] theorem u_runN (n : Nat) (f : List D → Mo D) (ds : List D) : runN n f ds = if ds.length = n then f ds else Mo.fail := id rfl
end
/-! frozen -/
@[simp] theorem frz_nil : frzE [] = [] := id rfl
@[simp] theorem frz_dat (d : D) (e : Ev) : frzE (.dat d :: e) = .dat d :: frzE e := id rfl
@[simp] theorem frz_un (e : Ev) : frzE (.un :: e) = .un :: frzE e := id rfl
@[simp] theorem frz_cel (xs : List D) (e : Ev) : frzE (.cel xs :: e) = .dat (.lst xs) :: frzE e := id rfl
/-! operations -/
@[simp] theorem add_ii (i j : Int) : addD (.int i) (.int j) = pure (.int (i + j)) := id rfl
@[simp] theorem sub_ii (i j : Int) : subD (.int i) (.int j) = pure (.int (i - j)) := id rfl
@[simp] theorem mul_ii (i j : Int) : multD (.int i) (.int j) = if mulOk i j = true then pure (.int (i * j)) else Mo.fail := id rfl
@[simp] theorem fdiv_ii (i j : Int) : fdivD (.int i) (.int j) = if divOk j = true then pure (.int (i.fdiv j)) else Mo.fail := id rfl
@[simp] theorem mod_ii (i j : Int) : modD (.int i) (.int j) = if 0 < j then pure (.int (i % j)) else Mo.fail := id rfl
@[simp] theorem neg_i (i : Int) : negD (.int i) = pure (.int (-i)) := id rfl
@[simp] theorem cm_lt (i j : Int) : cmF .Lt (.int i) (.int j) = pure (.bl (decide (i < j))) := id rfl
@[simp] theorem cm_le (i j : Int) : cmF .LtE (.int i) (.int j) = pure (.bl (decide (i ≤ j))) := id rfl
@[simp] theorem cm_gt (i j : Int) : cmF .Gt (.int i) (.int j) = pure (.bl (decide (j < i))) := id rfl
@[simp] theorem cm_ge (i j : Int) : cmF .GtE (.int i) (.int j) = pure (.bl (decide (j ≤ i))) := id rfl
@[simp] theorem cm_eq (i j : Int) : cmF .Eq (.int i) (.int j) = pure (.bl (i == j)) := id rfl
@[simp] theorem cm_ne (i j : Int) : cmF .NotEq (.int i) (.int j) = pure (.bl (!(i == j))) := id rfl
@[simp] theorem toB_bl (b : Bool) : toB (.bl b) = pure b := id rfl
@[simp] theorem tru_bl (b : Bool) : truD (.bl b) = pure b := id rfl
@[simp] theorem len_tup (xs : List D) : lenD [.tup xs] = pure (.int xs.length) := id rfl
@[simp] theorem len_lst (xs : List D) : lenD [.lst xs] = pure (.int xs.length) := id rfl
@[simp] theorem len_scr (xs : List Int) : lenD [.scr xs] = pure (.int xs.length) := id rfl
@[simp] theorem gcd_ii (i j : Int) : gcdD [.int i, .int j] = pure (.int ((Nat.gcd i.natAbs j.natAbs : Nat) : Int)) := id rfl
@[simp] theorem abs_i (i : Int) : absD [.int i] = pure (.int (if i < 0 then -i else i)) := id rfl
@[simp] theorem int_i (i : Int) : intD [.int i] = pure (.int i) := id rfl
@[simp] theorem mk_tup2 (a b : D) : mkTup [a, b] = pure (.tup [a, b]) := id rfl
@[simp] theorem mk_tup3 (a b c : D) : mkTup [a, b, c] = pure (.tup [a, b, c]) := id rfl
@[simp] theorem mk_tup1 (a : D) : mkTup [a] = pure (.tup [a]) := id rfl
@[simp] theorem mk_tup0 : mkTup [] = pure (.tup []) := id rfl
@[simp] theorem ix_2_0 (a b : D) : ixD (.tup [a, b]) (.int 0) = pure a := id rfl
@[simp] theorem ix_2_1 (a b : D) : ixD (.tup [a, b]) (.int 1) = pure b := id rfl
end TL
end
end

-- text TpD
section
set_option maxHeartbeats 4000000
set_option autoImplicit false
noncomputable section
namespace TP
open PySem PySem.Spec L2 TL
/-! ### the draws -/
def hashC (p turn : Int) : List Int → Int → Int
  | [], b => b
  | c :: cs, b => hashC p turn cs ((b * 69621 + c + turn) % p)
def hash1 (turn : Int) (cells : List Int) (p : Int) : Int := hashC p turn cells (48271 * turn + p / 53)
def step1 (turn : Int) (cells : List Int) (found p : Int) : Int := found * 2147483647 + hash1 turn cells p ^ 5 % p
def primes : List Int := [2147483579, 2147483629, 2147483563]
def blendV (turn : Int) (cells : List Int) : Int := primes.foldl (step1 turn cells) 0
/-- the draws may be used: sizes are small -/
def okT (t : Drw) : Bool := decide (t.great.length ≤ 1000) && decide (t.cells.length ≤ 1000) && decide (0 ≤ t.turn) && decide (t.turn.natAbs < 2 ^ 200)
def nextT (t : Drw) : Drw := { t with turn := t.turn + 1 }
def blendF (ds : List D) : Mo D := fun g => match ds, g with
  | [.ptr a], some t => if a = t.a ∧ okT t = true then .ok (.int (blendV (t.turn + 1) t.cells)) (some (nextT t)) else .stuck
  | _, _ => .stuck
/-! ### one draw -/
def loaded (t : Drw) : Drw := if t.rest = 0 then (match t.great with
  | x :: r => { t with great := r, rest := x }
  | [] => { nextT t with rest := blendV (t.turn + 1) t.cells }) else t
def drawnT (room : Int) (t : Drw) : Drw := { loaded t with rest := (loaded t).rest / room }
/-- not looked into by the kernel -/
def Sml (i : Int) : Prop := i < 2 ^ 60
instance (i : Int) : Decidable (Sml i) := Classical.propDecidable _
def drawF (ds : List D) : Mo D := fun g => match ds, g with
  | [.ptr a, .int room], some t => if a = t.a ∧ okT t = true ∧ 0 < room ∧ Sml room then .ok (.int ((loaded t).rest % room)) (some (drawnT room t)) else .stuck
  | _, _ => .stuck
abbrev f_law_draw := drawF
abbrev bentN : Nat := 10
theorem toPy_ints : ∀ ns : List Int, toPyL (ns.map D.int) = some (ns.map PyData.int)
  | [] => rfl
  | n :: ns => by
    show (match toPy (.int n), toPyL (ns.map D.int) with
      | some y, some ys => some (y :: ys)
      | _, _ => none) = _
    rw [toPy_ints ns] <;> rfl
theorem ints_lay : ∀ ns : List Int, PyData.canLayAll0 (ns.map PyData.int) = true ∧ PyData.depthAll (ns.map PyData.int) = 0
  | [] => ⟨rfl, rfl⟩
  | n :: ns => by
    obtain ⟨h1, h2⟩ := ints_lay ns
    refine ⟨?_, ?_⟩
    · show (PyData.canLay0 (.int n) && PyData.canLayAll0 (ns.map PyData.int)) = true
      rw [h1] <;> rfl
    · show max (PyData.depth (.int n)) (PyData.depthAll (ns.map PyData.int)) = 0
      rw [h2] <;> rfl
theorem ints_shaped (ns : List Int) : SeqAt.shaped (.list (ns.map PyData.int)) = true := by
  obtain ⟨h1, h2⟩ := ints_lay ns
  show (PyData.canLayAll0 (ns.map PyData.int) && decide (PyData.depthAll (ns.map PyData.int) + 1 ≤ 64)) = true
  rw [h1, h2] <;> rfl
theorem ints_nil (ns : List Int) : PyData.eqv (.list (ns.map PyData.int)) (.list []) = ns.isEmpty := by
  cases ns <;> rfl
end TP
end
end

-- text TpF_k90
section
set_option maxHeartbeats 4000000
set_option autoImplicit false
noncomputable section
namespace TP
open PySem PySem.Spec L2 TL
noncomputable def f_is_whole : List D → Mo D := runB (seqM (sRt (eAnd (isiE "int" (eV 0)) (notE (isiE "bool" (eV 0))))) sNx) 1
theorem c_is_whole : f_is_whole = runB (seqM (sRt (eAnd (isiE "int" (eV 0)) (notE (isiE "bool" (eV 0))))) sNx) 1 := rfl
noncomputable def f_is_ratio : List D → Mo D := runB (seqM (iteM (tOr (notT (truT (isiE "tuple" (eV 0)))) (tOr (tstB (cmE .NotEq (callE lenD (eCons (eV 0) eNil)) (eC (.int 2)))) (notT (truT (callE allD (eCons (lstE (lcC (asgN 1) tYes (callE (runN 1 f_is_whole) (eCons (eV 1) eNil)) [1] (seqI (eV 0)))) eNil)))))) (seqM (sRt (eC (.bl false))) sNx) sNx) (seqM (sRt (eAnd (cmE .Gt (ixE (eV 0) (eC (.int 1))) (eC (.int 0))) (cmE .Eq (callE gcdD (eCons (ixE (eV 0) (eC (.int 0))) (eCons (ixE (eV 0) (eC (.int 1))) eNil))) (eC (.int 1))))) sNx)) 2
theorem c_is_ratio : f_is_ratio = runB (seqM (iteM (tOr (notT (truT (isiE "tuple" (eV 0)))) (tOr (tstB (cmE .NotEq (callE lenD (eCons (eV 0) eNil)) (eC (.int 2)))) (notT (truT (callE allD (eCons (lstE (lcC (asgN 1) tYes (callE (runN 1 f_is_whole) (eCons (eV 1) eNil)) [1] (seqI (eV 0)))) eNil)))))) (seqM (sRt (eC (.bl false))) sNx) sNx) (seqM (sRt (eAnd (cmE .Gt (ixE (eV 0) (eC (.int 1))) (eC (.int 0))) (cmE .Eq (callE gcdD (eCons (ixE (eV 0) (eC (.int 0))) (eCons (ixE (eV 0) (eC (.int 1))) eNil))) (eC (.int 1))))) sNx)) 2 := rfl
noncomputable def f_lowest : List D → Mo D := runB (seqM (sSet 2 (iteM (tstB (cmE .Gt (eV 1) (eC (.int 0)))) (callE gcdD (eCons (eV 0) (eCons (eV 1) eNil))) (negE (callE gcdD (eCons (eV 0) (eCons (eV 1) eNil)))))) (seqM (sRt (tupE (eCons (eO fdivD (eV 0) (eV 2)) (eCons (eO fdivD (eV 1) (eV 2)) eNil)))) sNx)) 3
theorem c_lowest : f_lowest = runB (seqM (sSet 2 (iteM (tstB (cmE .Gt (eV 1) (eC (.int 0)))) (callE gcdD (eCons (eV 0) (eCons (eV 1) eNil))) (negE (callE gcdD (eCons (eV 0) (eCons (eV 1) eNil)))))) (seqM (sRt (tupE (eCons (eO fdivD (eV 0) (eV 2)) (eCons (eO fdivD (eV 1) (eV 2)) eNil)))) sNx)) 3 := rfl
noncomputable def f_plus : List D → Mo D := runB (seqM (sRt (callE (runN 2 f_lowest) (eCons (eO addD (eO multD (ixE (eV 0) (eC (.int 0))) (ixE (eV 1) (eC (.int 1)))) (eO multD (ixE (eV 1) (eC (.int 0))) (ixE (eV 0) (eC (.int 1))))) (eCons (eO multD (ixE (eV 0) (eC (.int 1))) (ixE (eV 1) (eC (.int 1)))) eNil)))) sNx) 2
theorem c_plus : f_plus = runB (seqM (sRt (callE (runN 2 f_lowest) (eCons (eO addD (eO multD (ixE (eV 0) (eC (.int 0))) (ixE (eV 1) (eC (.int 1)))) (eO multD (ixE (eV 1) (eC (.int 0))) (ixE (eV 0) (eC (.int 1))))) (eCons (eO multD (ixE (eV 0) (eC (.int 1))) (ixE (eV 1) (eC (.int 1)))) eNil)))) sNx) 2 := rfl
noncomputable def f_minus : List D → Mo D := runB (seqM (sRt (callE (runN 2 f_lowest) (eCons (eO subD (eO multD (ixE (eV 0) (eC (.int 0))) (ixE (eV 1) (eC (.int 1)))) (eO multD (ixE (eV 1) (eC (.int 0))) (ixE (eV 0) (eC (.int 1))))) (eCons (eO multD (ixE (eV 0) (eC (.int 1))) (ixE (eV 1) (eC (.int 1)))) eNil)))) sNx) 2
theorem c_minus : f_minus = runB (seqM (sRt (callE (runN 2 f_lowest) (eCons (eO subD (eO multD (ixE (eV 0) (eC (.int 0))) (ixE (eV 1) (eC (.int 1)))) (eO multD (ixE (eV 1) (eC (.int 0))) (ixE (eV 0) (eC (.int 1))))) (eCons (eO multD (ixE (eV 0) (eC (.int 1))) (ixE (eV 1) (eC (.int 1)))) eNil)))) sNx) 2 := rfl
noncomputable def f_times : List D → Mo D := runB (seqM (sRt (callE (runN 2 f_lowest) (eCons (eO multD (ixE (eV 0) (eC (.int 0))) (ixE (eV 1) (eC (.int 0)))) (eCons (eO multD (ixE (eV 0) (eC (.int 1))) (ixE (eV 1) (eC (.int 1)))) eNil)))) sNx) 2
theorem c_times : f_times = runB (seqM (sRt (callE (runN 2 f_lowest) (eCons (eO multD (ixE (eV 0) (eC (.int 0))) (ixE (eV 1) (eC (.int 0)))) (eCons (eO multD (ixE (eV 0) (eC (.int 1))) (ixE (eV 1) (eC (.int 1)))) eNil)))) sNx) 2 := rfl
noncomputable def f_is_less : List D → Mo D := runB (seqM (sRt (cmE .Lt (eO multD (ixE (eV 0) (eC (.int 0))) (ixE (eV 1) (eC (.int 1)))) (eO multD (ixE (eV 1) (eC (.int 0))) (ixE (eV 0) (eC (.int 1)))))) sNx) 2
theorem c_is_less : f_is_less = runB (seqM (sRt (cmE .Lt (eO multD (ixE (eV 0) (eC (.int 0))) (ixE (eV 1) (eC (.int 1)))) (eO multD (ixE (eV 1) (eC (.int 0))) (ixE (eV 0) (eC (.int 1)))))) sNx) 2 := rfl
noncomputable def f_total : List D → Mo D := runB (seqM (sSet 1 (eC (.tup [(.int 0), (.int 1)]))) (seqM (sFor (asgN 2) (seqI (eV 0)) (seqM (sSet 1 (callE (runN 2 f_plus) (eCons (eV 1) (eCons (eV 2) eNil)))) sNx)) (seqM (sRt (eV 1)) sNx))) 3
theorem c_total : f_total = runB (seqM (sSet 1 (eC (.tup [(.int 0), (.int 1)]))) (seqM (sFor (asgN 2) (seqI (eV 0)) (seqM (sSet 1 (callE (runN 2 f_plus) (eCons (eV 1) (eCons (eV 2) eNil)))) sNx)) (seqM (sRt (eV 1)) sNx))) 3 := rfl
noncomputable def f_greatest_of : List D → Mo D := runB (seqM (sSet 1 (ixE (eV 0) (eC (.int 0)))) (seqM (sFor (asgN 2) (seqI (slE (eV 0) (eS (eC (.int 1))) eN)) (seqM (sSet 1 (iteM (truT (callE (runN 2 f_is_less) (eCons (eV 1) (eCons (eV 2) eNil)))) (eV 2) (eV 1))) sNx)) (seqM (sRt (eV 1)) sNx))) 3
theorem c_greatest_of : f_greatest_of = runB (seqM (sSet 1 (ixE (eV 0) (eC (.int 0)))) (seqM (sFor (asgN 2) (seqI (slE (eV 0) (eS (eC (.int 1))) eN)) (seqM (sSet 1 (iteM (truT (callE (runN 2 f_is_less) (eCons (eV 1) (eCons (eV 2) eNil)))) (eV 2) (eV 1))) sNx)) (seqM (sRt (eV 1)) sNx))) 3 := rfl
noncomputable def f_is_vector : List D → Mo D := runB (seqM (sRt (eAnd (isiE "tuple" (eV 0)) (eAnd (chE .LtE .LtE (eC (.int 1)) (callE lenD (eCons (eV 0) eNil)) (eC (.int 200))) (callE allD (eCons (lstE (lcC (asgN 1) tYes (callE (runN 1 f_is_ratio) (eCons (eV 1) eNil)) [1] (seqI (eV 0)))) eNil))))) sNx) 2
theorem c_is_vector : f_is_vector = runB (seqM (sRt (eAnd (isiE "tuple" (eV 0)) (eAnd (chE .LtE .LtE (eC (.int 1)) (callE lenD (eCons (eV 0) eNil)) (eC (.int 200))) (callE allD (eCons (lstE (lcC (asgN 1) tYes (callE (runN 1 f_is_ratio) (eCons (eV 1) eNil)) [1] (seqI (eV 0)))) eNil))))) sNx) 2 := rfl
noncomputable def f_dot : List D → Mo D := runB (seqM (sRt (callE (runN 1 f_total) (eCons (lstE (lcC (asgT 2 (asgCons (asgN 2) (asgCons (asgN 3) asgNil))) tYes (callE (runN 2 f_times) (eCons (eV 2) (eCons (eV 3) eNil))) [2, 3] (zipI (eCons (eV 0) (eCons (eV 1) eNil))))) eNil))) sNx) 4
theorem c_dot : f_dot = runB (seqM (sRt (callE (runN 1 f_total) (eCons (lstE (lcC (asgT 2 (asgCons (asgN 2) (asgCons (asgN 3) asgNil))) tYes (callE (runN 2 f_times) (eCons (eV 2) (eCons (eV 3) eNil))) [2, 3] (zipI (eCons (eV 0) (eCons (eV 1) eNil))))) eNil))) sNx) 4 := rfl
noncomputable def f_apart : List D → Mo D := runB (seqM (sRt (callE tupleD (eCons (lstE (lcC (asgT 2 (asgCons (asgN 2) (asgCons (asgN 3) asgNil))) tYes (callE (runN 2 f_minus) (eCons (eV 2) (eCons (eV 3) eNil))) [2, 3] (zipI (eCons (eV 0) (eCons (eV 1) eNil))))) eNil))) sNx) 4
theorem c_apart : f_apart = runB (seqM (sRt (callE tupleD (eCons (lstE (lcC (asgT 2 (asgCons (asgN 2) (asgCons (asgN 3) asgNil))) tYes (callE (runN 2 f_minus) (eCons (eV 2) (eCons (eV 3) eNil))) [2, 3] (zipI (eCons (eV 0) (eCons (eV 1) eNil))))) eNil))) sNx) 4 := rfl
noncomputable def f_is_word : List D → Mo D := runB (seqM (sRt (eAnd (isiE "str" (eV 0)) (eAnd (chE .LtE .LtE (eC (.int 1)) (callE lenD (eCons (eV 0) eNil)) (eC (.int 8))) (callE allD (eCons (lstE (lcC (asgN 1) tYes (cmE .In (eV 1) (eC (.str "abcdefghijklmnopqrstuvwxyz"))) [1] (seqI (eV 0)))) eNil))))) sNx) 2
theorem c_is_word : f_is_word = runB (seqM (sRt (eAnd (isiE "str" (eV 0)) (eAnd (chE .LtE .LtE (eC (.int 1)) (callE lenD (eCons (eV 0) eNil)) (eC (.int 8))) (callE allD (eCons (lstE (lcC (asgN 1) tYes (cmE .In (eV 1) (eC (.str "abcdefghijklmnopqrstuvwxyz"))) [1] (seqI (eV 0)))) eNil))))) sNx) 2 := rfl
noncomputable def f_is_line : List D → Mo D := runB (seqM (iteM (tOr (notT (truT (isiE "tuple" (eV 0)))) (tOr (tstB (cmE .NotEq (callE lenD (eCons (eV 0) eNil)) (eC (.int 2)))) (tOr (notT (truT (callE (runN 1 f_is_word) (eCons (ixE (eV 0) (eC (.int 0))) eNil)))) (notT (truT (callE (runN 1 f_is_vector) (eCons (ixE (eV 0) (eC (.int 1))) eNil))))))) (seqM (sRt (eC (.bl false))) sNx) sNx) (seqM (sRt (chE .LtE .LtE (eC (.int 2)) (callE lenD (eCons (ixE (eV 0) (eC (.int 1))) eNil)) (eO addD (eC (.int 3)) (eC (.int 1))))) sNx)) 1
theorem c_is_line : f_is_line = runB (seqM (iteM (tOr (notT (truT (isiE "tuple" (eV 0)))) (tOr (tstB (cmE .NotEq (callE lenD (eCons (eV 0) eNil)) (eC (.int 2)))) (tOr (notT (truT (callE (runN 1 f_is_word) (eCons (ixE (eV 0) (eC (.int 0))) eNil)))) (notT (truT (callE (runN 1 f_is_vector) (eCons (ixE (eV 0) (eC (.int 1))) eNil))))))) (seqM (sRt (eC (.bl false))) sNx) sNx) (seqM (sRt (chE .LtE .LtE (eC (.int 2)) (callE lenD (eCons (ixE (eV 0) (eC (.int 1))) eNil)) (eO addD (eC (.int 3)) (eC (.int 1))))) sNx)) 1 := rfl
noncomputable def f_is_lines : List D → Mo D := runB (seqM (iteM (tOr (notT (truT (isiE "tuple" (eV 0)))) (tOr (tstB (cmE .NotEq (callE lenD (eCons (eV 0) eNil)) (eC (.int 2)))) (tOr (notT (truT (isiE "str" (ixE (eV 0) (eC (.int 0)))))) (tstB (cmE .NotEq (ixE (eV 0) (eC (.int 0))) (eC (.str "lines"))))))) (seqM (sRt (eC (.bl false))) sNx) sNx) (seqM (sSet 1 (ixE (eV 0) (eC (.int 1)))) (seqM (iteM (tOr (notT (truT (isiE "tuple" (eV 1)))) (tOr (notT (tstB (chE .LtE .LtE (eC (.int 1)) (callE lenD (eCons (eV 1) eNil)) (eC (.int 6))))) (notT (truT (callE allD (eCons (lstE (lcC (asgN 2) tYes (callE (runN 1 f_is_line) (eCons (eV 2) eNil)) [2] (seqI (eV 1)))) eNil)))))) (seqM (sRt (eC (.bl false))) sNx) sNx) (seqM (iteM (truT (callE anyD (eCons (lstE (lcC (asgN 2) tYes (cmE .NotEq (callE lenD (eCons (ixE (eV 2) (eC (.int 1))) eNil)) (callE lenD (eCons (ixE (ixE (eV 1) (eC (.int 0))) (eC (.int 1))) eNil))) [2] (seqI (eV 1)))) eNil))) (seqM (sRt (eC (.bl false))) sNx) sNx) (seqM (sRt (callE allD (eCons (lstE (lcC (asgN 3) tYes (cmE .Lt (ixE (ixE (eV 1) (eV 3)) (eC (.int 0))) (ixE (ixE (eV 1) (eO addD (eV 3) (eC (.int 1)))) (eC (.int 0)))) [3] (rngI 1 (eCons (eO subD (callE lenD (eCons (eV 1) eNil)) (eC (.int 1))) eNil)))) eNil))) sNx))))) 4
theorem c_is_lines : f_is_lines = runB (seqM (iteM (tOr (notT (truT (isiE "tuple" (eV 0)))) (tOr (tstB (cmE .NotEq (callE lenD (eCons (eV 0) eNil)) (eC (.int 2)))) (tOr (notT (truT (isiE "str" (ixE (eV 0) (eC (.int 0)))))) (tstB (cmE .NotEq (ixE (eV 0) (eC (.int 0))) (eC (.str "lines"))))))) (seqM (sRt (eC (.bl false))) sNx) sNx) (seqM (sSet 1 (ixE (eV 0) (eC (.int 1)))) (seqM (iteM (tOr (notT (truT (isiE "tuple" (eV 1)))) (tOr (notT (tstB (chE .LtE .LtE (eC (.int 1)) (callE lenD (eCons (eV 1) eNil)) (eC (.int 6))))) (notT (truT (callE allD (eCons (lstE (lcC (asgN 2) tYes (callE (runN 1 f_is_line) (eCons (eV 2) eNil)) [2] (seqI (eV 1)))) eNil)))))) (seqM (sRt (eC (.bl false))) sNx) sNx) (seqM (iteM (truT (callE anyD (eCons (lstE (lcC (asgN 2) tYes (cmE .NotEq (callE lenD (eCons (ixE (eV 2) (eC (.int 1))) eNil)) (callE lenD (eCons (ixE (ixE (eV 1) (eC (.int 0))) (eC (.int 1))) eNil))) [2] (seqI (eV 1)))) eNil))) (seqM (sRt (eC (.bl false))) sNx) sNx) (seqM (sRt (callE allD (eCons (lstE (lcC (asgN 3) tYes (cmE .Lt (ixE (ixE (eV 1) (eV 3)) (eC (.int 0))) (ixE (ixE (eV 1) (eO addD (eV 3) (eC (.int 1)))) (eC (.int 0)))) [3] (rngI 1 (eCons (eO subD (callE lenD (eCons (eV 1) eNil)) (eC (.int 1))) eNil)))) eNil))) sNx))))) 4 := rfl
noncomputable def f_need_lines : List D → Mo D := runB (seqM (iteM (notT (truT (callE (runN 1 f_is_lines) (eCons (eV 0) eNil)))) (seqM (sRaise "BadLines") sNx) sNx) sNx) 1
theorem c_need_lines : f_need_lines = runB (seqM (iteM (notT (truT (callE (runN 1 f_is_lines) (eCons (eV 0) eNil)))) (seqM (sRaise "BadLines") sNx) sNx) sNx) 1 := rfl
noncomputable def f_places_of_lines : List D → Mo D := runB (seqM (sRt (eO subD (callE lenD (eCons (ixE (ixE (ixE (eV 0) (eC (.int 1))) (eC (.int 0))) (eC (.int 1))) eNil)) (eC (.int 1)))) sNx) 1
theorem c_places_of_lines : f_places_of_lines = runB (seqM (sRt (eO subD (callE lenD (eCons (ixE (ixE (ixE (eV 0) (eC (.int 1))) (eC (.int 0))) (eC (.int 1))) eNil)) (eC (.int 1)))) sNx) 1 := rfl
noncomputable def f_need_line_word : List D → Mo D := runB (seqM (iteM (tOr (notT (truT (callE (runN 1 f_is_word) (eCons (eV 1) eNil)))) (tstB (cmE .NotIn (eV 1) (lstE (lcC (asgN 2) tYes (ixE (eV 2) (eC (.int 0))) [2] (seqI (ixE (eV 0) (eC (.int 1))))))))) (seqM (sRaise "BadWord") sNx) sNx) sNx) 3
theorem c_need_line_word : f_need_line_word = runB (seqM (iteM (tOr (notT (truT (callE (runN 1 f_is_word) (eCons (eV 1) eNil)))) (tstB (cmE .NotIn (eV 1) (lstE (lcC (asgN 2) tYes (ixE (eV 2) (eC (.int 0))) [2] (seqI (ixE (eV 0) (eC (.int 1))))))))) (seqM (sRaise "BadWord") sNx) sNx) sNx) 3 := rfl
noncomputable def f_worth_of : List D → Mo D := runB (seqM (sRt (callE (runN 2 f_plus) (eCons (callE (runN 2 f_dot) (eCons (slE (eV 0) eN (eS (negE (eC (.int 1))))) (eCons (eV 1) eNil))) (eCons (ixE (eV 0) (negE (eC (.int 1)))) eNil)))) sNx) 2
theorem c_worth_of : f_worth_of = runB (seqM (sRt (callE (runN 2 f_plus) (eCons (callE (runN 2 f_dot) (eCons (slE (eV 0) eN (eS (negE (eC (.int 1))))) (eCons (eV 1) eNil))) (eCons (ixE (eV 0) (negE (eC (.int 1)))) eNil)))) sNx) 2 := rfl
noncomputable def f_greatest_words : List D → Mo D := runB (seqM (sLcD 2 (lcC (asgT 2 (asgCons (asgN 3) (asgCons (asgN 4) asgNil))) tYes (callE (runN 2 f_worth_of) (eCons (eV 4) (eCons (eV 1) eNil))) [3, 4] (seqI (ixE (eV 0) (eC (.int 1)))))) (seqM (sSet 5 (callE (runN 1 f_greatest_of) (eCons (eV 2) eNil))) (seqM (sRt (callE tupleD (eCons (lstE (lcC (asgT 2 (asgCons (asgN 6) (asgCons (asgN 7) asgNil))) (tstB (cmE .Eq (eV 7) (eV 5))) (ixE (eV 6) (eC (.int 0))) [6, 7] (zipI (eCons (ixE (eV 0) (eC (.int 1))) (eCons (eV 2) eNil))))) eNil))) sNx))) 8
theorem c_greatest_words : f_greatest_words = runB (seqM (sLcD 2 (lcC (asgT 2 (asgCons (asgN 3) (asgCons (asgN 4) asgNil))) tYes (callE (runN 2 f_worth_of) (eCons (eV 4) (eCons (eV 1) eNil))) [3, 4] (seqI (ixE (eV 0) (eC (.int 1)))))) (seqM (sSet 5 (callE (runN 1 f_greatest_of) (eCons (eV 2) eNil))) (seqM (sRt (callE tupleD (eCons (lstE (lcC (asgT 2 (asgCons (asgN 6) (asgCons (asgN 7) asgNil))) (tstB (cmE .Eq (eV 7) (eV 5))) (ixE (eV 6) (eC (.int 0))) [6, 7] (zipI (eCons (ixE (eV 0) (eC (.int 1))) (eCons (eV 2) eNil))))) eNil))) sNx))) 8 := rfl
noncomputable def f_chosen : List D → Mo D := runB (seqM (sEx (callE (runN 1 f_need_lines) (eCons (eV 0) eNil))) (seqM (iteM (tOr (notT (truT (callE (runN 1 f_is_vector) (eCons (eV 1) eNil)))) (tstB (cmE .NotEq (callE lenD (eCons (eV 1) eNil)) (callE (runN 1 f_places_of_lines) (eCons (eV 0) eNil))))) (seqM (sRaise "BadPoint") sNx) sNx) (seqM (sRt (callE (runN 2 f_greatest_words) (eCons (eV 0) (eCons (eV 1) eNil)))) sNx))) 2
theorem c_chosen : f_chosen = runB (seqM (sEx (callE (runN 1 f_need_lines) (eCons (eV 0) eNil))) (seqM (iteM (tOr (notT (truT (callE (runN 1 f_is_vector) (eCons (eV 1) eNil)))) (tstB (cmE .NotEq (callE lenD (eCons (eV 1) eNil)) (callE (runN 1 f_places_of_lines) (eCons (eV 0) eNil))))) (seqM (sRaise "BadPoint") sNx) sNx) (seqM (sRt (callE (runN 2 f_greatest_words) (eCons (eV 0) (eCons (eV 1) eNil)))) sNx))) 2 := rfl
noncomputable def f_limits_of : List D → Mo D := runB (seqM (sSet 2 (ixE (lstE (lcC (asgT 2 (asgCons (asgN 3) (asgCons (asgN 4) asgNil))) (tstB (cmE .Eq (eV 3) (eV 1))) (eV 4) [3, 4] (seqI (ixE (eV 0) (eC (.int 1)))))) (eC (.int 0)))) (seqM (sNew 5 (nLst eNil)) (seqM (sFor (asgT 2 (asgCons (asgN 3) (asgCons (asgN 4) asgNil))) (seqI (ixE (eV 0) (eC (.int 1)))) (seqM (iteM (tstB (cmE .NotEq (eV 3) (eV 1))) (seqM (apE 5 (tupE (eCons (callE (runN 2 f_apart) (eCons (slE (eV 2) eN (eS (negE (eC (.int 1))))) (eCons (slE (eV 4) eN (eS (negE (eC (.int 1))))) eNil))) (eCons (callE (runN 2 f_minus) (eCons (ixE (eV 4) (negE (eC (.int 1)))) (eCons (ixE (eV 2) (negE (eC (.int 1)))) eNil))) eNil)))) sNx) sNx) sNx)) (seqM (sRt (callE tupleD (eCons (eV 5) eNil))) sNx)))) 6
theorem c_limits_of : f_limits_of = runB (seqM (sSet 2 (ixE (lstE (lcC (asgT 2 (asgCons (asgN 3) (asgCons (asgN 4) asgNil))) (tstB (cmE .Eq (eV 3) (eV 1))) (eV 4) [3, 4] (seqI (ixE (eV 0) (eC (.int 1)))))) (eC (.int 0)))) (seqM (sNew 5 (nLst eNil)) (seqM (sFor (asgT 2 (asgCons (asgN 3) (asgCons (asgN 4) asgNil))) (seqI (ixE (eV 0) (eC (.int 1)))) (seqM (iteM (tstB (cmE .NotEq (eV 3) (eV 1))) (seqM (apE 5 (tupE (eCons (callE (runN 2 f_apart) (eCons (slE (eV 2) eN (eS (negE (eC (.int 1))))) (eCons (slE (eV 4) eN (eS (negE (eC (.int 1))))) eNil))) (eCons (callE (runN 2 f_minus) (eCons (ixE (eV 4) (negE (eC (.int 1)))) (eCons (ixE (eV 2) (negE (eC (.int 1)))) eNil))) eNil)))) sNx) sNx) sNx)) (seqM (sRt (callE tupleD (eCons (eV 5) eNil))) sNx)))) 6 := rfl
noncomputable def f_region : List D → Mo D := runB (seqM (sEx (callE (runN 1 f_need_lines) (eCons (eV 0) eNil))) (seqM (sEx (callE (runN 2 f_need_line_word) (eCons (eV 0) (eCons (eV 1) eNil)))) (seqM (sRt (tupE (eCons (eC (.str "polyhedron")) (eCons (callE (runN 1 f_places_of_lines) (eCons (eV 0) eNil)) (eCons (callE (runN 2 f_limits_of) (eCons (eV 0) (eCons (eV 1) eNil))) eNil))))) sNx))) 2
theorem c_region : f_region = runB (seqM (sEx (callE (runN 1 f_need_lines) (eCons (eV 0) eNil))) (seqM (sEx (callE (runN 2 f_need_line_word) (eCons (eV 0) (eCons (eV 1) eNil)))) (seqM (sRt (tupE (eCons (eC (.str "polyhedron")) (eCons (callE (runN 1 f_places_of_lines) (eCons (eV 0) eNil)) (eCons (callE (runN 2 f_limits_of) (eCons (eV 0) (eCons (eV 1) eNil))) eNil))))) sNx))) 2 := rfl
noncomputable def f_law_pick : List D → Mo D := runB (seqM (sRt (ixE (eV 1) (callE (runN 2 f_law_draw) (eCons (eV 0) (eCons (callE lenD (eCons (eV 1) eNil)) eNil))))) sNx) 2
theorem c_law_pick : f_law_pick = runB (seqM (sRt (ixE (eV 1) (callE (runN 2 f_law_draw) (eCons (eV 0) (eCons (callE lenD (eCons (eV 1) eNil)) eNil))))) sNx) 2 := rfl
noncomputable def f_law_is_truth : List D → Mo D := runB (seqM (sRt (iteM (truT (eV 1)) (cmE .Is (eV 0) (eC (.bl true))) (cmE .Is (eV 0) (eC (.bl false))))) sNx) 2
theorem c_law_is_truth : f_law_is_truth = runB (seqM (sRt (iteM (truT (eV 1)) (cmE .Is (eV 0) (eC (.bl true))) (cmE .Is (eV 0) (eC (.bl false))))) sNx) 2 := rfl
noncomputable def f_law_same : List D → Mo D := runB (seqM (sNew 2 (nLst (eCons (tupE (eCons (eV 0) (eCons (eV 1) eNil))) eNil))) (seqM (whD (bT (tstB (cmE .NotEq (eV 2) (mlsE eNil)))) (seqM (poE 2 (asgT 2 (asgCons (asgN 3) (asgCons (asgN 4) asgNil)))) (seqM (iteM (tOr (tstB (cmE .Is (eV 4) (eC .non))) (truT (isiE "bool" (eV 4)))) (seqM (iteM (iteM (tstB (cmE .Is (eV 4) (eC .non))) (tstB (cmE .IsNot (eV 3) (eC .non))) (notT (truT (callE (runN 2 f_law_is_truth) (eCons (eV 3) (eCons (eV 4) eNil)))))) (seqM (sRt (eC (.bl false))) sNx) sNx) sNx) (seqM (iteM (truT (isi2E "int" "str" (eV 4))) (seqM (iteM (tOr (truT (isiE "bool" (eV 3))) (tOr (tstB (cmE .NotEq (isiE "int" (eV 3)) (isiE "int" (eV 4)))) (tstB (cmE .NotEq (eV 3) (eV 4))))) (seqM (sRt (eC (.bl false))) sNx) sNx) sNx) (seqM (iteM (truT (isiE "dict" (eV 4))) (seqM (iteM (tOr (notT (truT (isiE "dict" (eV 3)))) (tstB (cmE .NotEq (callE listD (eCons (eV 3) eNil)) (callE listD (eCons (eV 4) eNil))))) (seqM (sRt (eC (.bl false))) sNx) sNx) (seqM (exE 2 (callE listD (eCons (eF) eNil))) (seqM (exE 2 (lstE (lcC (asgN 5) tYes (tupE (eCons (ixE (eV 3) (eV 5)) (eCons (ixE (eV 4) (eV 5)) eNil))) [5] (seqI (eV 4))))) sNx))) (seqM (sSet 6 (mlsE (eCons (eAnd (isiE "tuple" (eV 3)) (isiE "tuple" (eV 4))) (eCons (eAnd (isiE "list" (eV 3)) (isiE "list" (eV 4))) eNil)))) (seqM (iteM (tOr (tstB (cmE .NotIn (eC (.bl true)) (eV 6))) (tstB (cmE .NotEq (callE lenD (eCons (eV 3) eNil)) (callE lenD (eCons (eV 4) eNil))))) (seqM (sRt (eC (.bl false))) sNx) sNx) (seqM (exE 2 (lstE (lcC (asgT 2 (asgCons (asgN 7) (asgCons (asgN 8) asgNil))) tYes (tupE (eCons (eV 7) (eCons (eV 8) eNil))) [7, 8] (zipI (eCons (eV 3) (eCons (eV 4) eNil)))))) sNx)))) sNx)) sNx)) sNx))) (seqM (sRt (eC (.bl true))) sNx))) 9
theorem c_law_same : f_law_same = runB (seqM (sNew 2 (nLst (eCons (tupE (eCons (eV 0) (eCons (eV 1) eNil))) eNil))) (seqM (whD (bT (tstB (cmE .NotEq (eV 2) (mlsE eNil)))) (seqM (poE 2 (asgT 2 (asgCons (asgN 3) (asgCons (asgN 4) asgNil)))) (seqM (iteM (tOr (tstB (cmE .Is (eV 4) (eC .non))) (truT (isiE "bool" (eV 4)))) (seqM (iteM (iteM (tstB (cmE .Is (eV 4) (eC .non))) (tstB (cmE .IsNot (eV 3) (eC .non))) (notT (truT (callE (runN 2 f_law_is_truth) (eCons (eV 3) (eCons (eV 4) eNil)))))) (seqM (sRt (eC (.bl false))) sNx) sNx) sNx) (seqM (iteM (truT (isi2E "int" "str" (eV 4))) (seqM (iteM (tOr (truT (isiE "bool" (eV 3))) (tOr (tstB (cmE .NotEq (isiE "int" (eV 3)) (isiE "int" (eV 4)))) (tstB (cmE .NotEq (eV 3) (eV 4))))) (seqM (sRt (eC (.bl false))) sNx) sNx) sNx) (seqM (iteM (truT (isiE "dict" (eV 4))) (seqM (iteM (tOr (notT (truT (isiE "dict" (eV 3)))) (tstB (cmE .NotEq (callE listD (eCons (eV 3) eNil)) (callE listD (eCons (eV 4) eNil))))) (seqM (sRt (eC (.bl false))) sNx) sNx) (seqM (exE 2 (callE listD (eCons (eF) eNil))) (seqM (exE 2 (lstE (lcC (asgN 5) tYes (tupE (eCons (ixE (eV 3) (eV 5)) (eCons (ixE (eV 4) (eV 5)) eNil))) [5] (seqI (eV 4))))) sNx))) (seqM (sSet 6 (mlsE (eCons (eAnd (isiE "tuple" (eV 3)) (isiE "tuple" (eV 4))) (eCons (eAnd (isiE "list" (eV 3)) (isiE "list" (eV 4))) eNil)))) (seqM (iteM (tOr (tstB (cmE .NotIn (eC (.bl true)) (eV 6))) (tstB (cmE .NotEq (callE lenD (eCons (eV 3) eNil)) (callE lenD (eCons (eV 4) eNil))))) (seqM (sRt (eC (.bl false))) sNx) sNx) (seqM (exE 2 (lstE (lcC (asgT 2 (asgCons (asgN 7) (asgCons (asgN 8) asgNil))) tYes (tupE (eCons (eV 7) (eCons (eV 8) eNil))) [7, 8] (zipI (eCons (eV 3) (eCons (eV 4) eNil)))))) sNx)))) sNx)) sNx)) sNx))) (seqM (sRt (eC (.bl true))) sNx))) 9 := rfl
noncomputable def f_law_q : List D → Mo D := runB (seqM (sPar 2 3 (eCons (callE absD (eCons (eV 0) eNil)) (eCons (callE absD (eCons (eV 1) eNil)) eNil))) (seqM (whD (tstB (cmE .Gt (eV 3) (eC (.int 0)))) (seqM (sPar 2 3 (eCons (eV 3) (eCons (eO modD (callE intD (eCons (eV 2) eNil)) (eV 3)) eNil))) sNx)) (seqM (sRt (iteM (tstB (cmE .Gt (eV 1) (eC (.int 0)))) (tupE (eCons (eO fdivD (eV 0) (eV 2)) (eCons (eO fdivD (eV 1) (eV 2)) eNil))) (tupE (eCons (eO fdivD (negE (eV 0)) (eV 2)) (eCons (eO fdivD (negE (eV 1)) (eV 2)) eNil))))) sNx))) 4
theorem c_law_q : f_law_q = runB (seqM (sPar 2 3 (eCons (callE absD (eCons (eV 0) eNil)) (eCons (callE absD (eCons (eV 1) eNil)) eNil))) (seqM (whD (tstB (cmE .Gt (eV 3) (eC (.int 0)))) (seqM (sPar 2 3 (eCons (eV 3) (eCons (eO modD (callE intD (eCons (eV 2) eNil)) (eV 3)) eNil))) sNx)) (seqM (sRt (iteM (tstB (cmE .Gt (eV 1) (eC (.int 0)))) (tupE (eCons (eO fdivD (eV 0) (eV 2)) (eCons (eO fdivD (eV 1) (eV 2)) eNil))) (tupE (eCons (eO fdivD (negE (eV 0)) (eV 2)) (eCons (eO fdivD (negE (eV 1)) (eV 2)) eNil))))) sNx))) 4 := rfl
noncomputable def f_law_plus : List D → Mo D := runB (seqM (sRt (callE (runN 2 f_law_q) (eCons (eO addD (eO multD (ixE (eV 0) (eC (.int 0))) (ixE (eV 1) (eC (.int 1)))) (eO multD (ixE (eV 1) (eC (.int 0))) (ixE (eV 0) (eC (.int 1))))) (eCons (eO multD (ixE (eV 0) (eC (.int 1))) (ixE (eV 1) (eC (.int 1)))) eNil)))) sNx) 2
theorem c_law_plus : f_law_plus = runB (seqM (sRt (callE (runN 2 f_law_q) (eCons (eO addD (eO multD (ixE (eV 0) (eC (.int 0))) (ixE (eV 1) (eC (.int 1)))) (eO multD (ixE (eV 1) (eC (.int 0))) (ixE (eV 0) (eC (.int 1))))) (eCons (eO multD (ixE (eV 0) (eC (.int 1))) (ixE (eV 1) (eC (.int 1)))) eNil)))) sNx) 2 := rfl
noncomputable def f_law_minus : List D → Mo D := runB (seqM (sRt (callE (runN 2 f_law_q) (eCons (eO subD (eO multD (ixE (eV 0) (eC (.int 0))) (ixE (eV 1) (eC (.int 1)))) (eO multD (ixE (eV 1) (eC (.int 0))) (ixE (eV 0) (eC (.int 1))))) (eCons (eO multD (ixE (eV 0) (eC (.int 1))) (ixE (eV 1) (eC (.int 1)))) eNil)))) sNx) 2
theorem c_law_minus : f_law_minus = runB (seqM (sRt (callE (runN 2 f_law_q) (eCons (eO subD (eO multD (ixE (eV 0) (eC (.int 0))) (ixE (eV 1) (eC (.int 1)))) (eO multD (ixE (eV 1) (eC (.int 0))) (ixE (eV 0) (eC (.int 1))))) (eCons (eO multD (ixE (eV 0) (eC (.int 1))) (ixE (eV 1) (eC (.int 1)))) eNil)))) sNx) 2 := rfl
noncomputable def f_law_times : List D → Mo D := runB (seqM (sRt (callE (runN 2 f_law_q) (eCons (eO multD (ixE (eV 0) (eC (.int 0))) (ixE (eV 1) (eC (.int 0)))) (eCons (eO multD (ixE (eV 0) (eC (.int 1))) (ixE (eV 1) (eC (.int 1)))) eNil)))) sNx) 2
theorem c_law_times : f_law_times = runB (seqM (sRt (callE (runN 2 f_law_q) (eCons (eO multD (ixE (eV 0) (eC (.int 0))) (ixE (eV 1) (eC (.int 0)))) (eCons (eO multD (ixE (eV 0) (eC (.int 1))) (ixE (eV 1) (eC (.int 1)))) eNil)))) sNx) 2 := rfl
noncomputable def f_law_over : List D → Mo D := runB (seqM (sRt (callE (runN 2 f_law_q) (eCons (eO multD (ixE (eV 0) (eC (.int 0))) (ixE (eV 1) (eC (.int 1)))) (eCons (eO multD (ixE (eV 0) (eC (.int 1))) (ixE (eV 1) (eC (.int 0)))) eNil)))) sNx) 2
theorem c_law_over : f_law_over = runB (seqM (sRt (callE (runN 2 f_law_q) (eCons (eO multD (ixE (eV 0) (eC (.int 0))) (ixE (eV 1) (eC (.int 1)))) (eCons (eO multD (ixE (eV 0) (eC (.int 1))) (ixE (eV 1) (eC (.int 0)))) eNil)))) sNx) 2 := rfl
noncomputable def f_law_less : List D → Mo D := runB (seqM (sRt (cmE .Lt (eO multD (ixE (eV 0) (eC (.int 0))) (ixE (eV 1) (eC (.int 1)))) (eO multD (ixE (eV 1) (eC (.int 0))) (ixE (eV 0) (eC (.int 1)))))) sNx) 2
theorem c_law_less : f_law_less = runB (seqM (sRt (cmE .Lt (eO multD (ixE (eV 0) (eC (.int 0))) (ixE (eV 1) (eC (.int 1)))) (eO multD (ixE (eV 1) (eC (.int 0))) (ixE (eV 0) (eC (.int 1)))))) sNx) 2 := rfl
noncomputable def f_law_sum : List D → Mo D := runB (seqM (sSet 1 (tupE (eCons (eC (.int 0)) (eCons (eC (.int 1)) eNil)))) (seqM (sFor (asgN 2) (seqI (eV 0)) (seqM (sSet 1 (callE (runN 2 f_law_plus) (eCons (eV 1) (eCons (eV 2) eNil)))) sNx)) (seqM (sRt (eV 1)) sNx))) 3
theorem c_law_sum : f_law_sum = runB (seqM (sSet 1 (tupE (eCons (eC (.int 0)) (eCons (eC (.int 1)) eNil)))) (seqM (sFor (asgN 2) (seqI (eV 0)) (seqM (sSet 1 (callE (runN 2 f_law_plus) (eCons (eV 1) (eCons (eV 2) eNil)))) sNx)) (seqM (sRt (eV 1)) sNx))) 3 := rfl
noncomputable def f_law_words : List D → Mo D := runB (seqM (sSet 2 (mlsE eNil)) (seqM (whD (tstB (cmE .Lt (callE lenD (eCons (eV 2) eNil)) (eV 1))) (seqM (sSet 3 (joinE (eC (.str "")) (lstE (lcC (asgN 4) tYes (callE (runN 2 f_law_pick) (eCons (eV 0) (eCons (callE listD (eCons (eC (.str "abcdefghijklmnopqrstuvwxyz")) eNil)) eNil))) [4] (rngI 1 (eCons (eO addD (eC (.int 1)) (callE (runN 2 f_law_draw) (eCons (eV 0) (eCons (eC (.int 8)) eNil)))) eNil)))))) (seqM (sSet 2 (eO addD (eV 2) (iteM (tstB (cmE .NotIn (eV 3) (eV 2))) (mlsE (eCons (eV 3) eNil)) (iteM (tAnd (tstB (cmE .NotIn (eO addD (slE (eV 3) eN (eS (eC (.int 1)))) (eO multD (eC (.str "q")) (callE lenD (eCons (eV 2) eNil)))) (eV 2))) (tstB (cmE .Lt (callE lenD (eCons (eV 2) eNil)) (eC (.int 8))))) (mlsE (eCons (eO addD (slE (eV 3) eN (eS (eC (.int 1)))) (eO multD (eC (.str "q")) (callE lenD (eCons (eV 2) eNil)))) eNil)) (mlsE eNil))))) sNx))) (seqM (sRt (callE sortedD (eCons (eV 2) eNil))) sNx))) 5
theorem c_law_words : f_law_words = runB (seqM (sSet 2 (mlsE eNil)) (seqM (whD (tstB (cmE .Lt (callE lenD (eCons (eV 2) eNil)) (eV 1))) (seqM (sSet 3 (joinE (eC (.str "")) (lstE (lcC (asgN 4) tYes (callE (runN 2 f_law_pick) (eCons (eV 0) (eCons (callE listD (eCons (eC (.str "abcdefghijklmnopqrstuvwxyz")) eNil)) eNil))) [4] (rngI 1 (eCons (eO addD (eC (.int 1)) (callE (runN 2 f_law_draw) (eCons (eV 0) (eCons (eC (.int 8)) eNil)))) eNil)))))) (seqM (sSet 2 (eO addD (eV 2) (iteM (tstB (cmE .NotIn (eV 3) (eV 2))) (mlsE (eCons (eV 3) eNil)) (iteM (tAnd (tstB (cmE .NotIn (eO addD (slE (eV 3) eN (eS (eC (.int 1)))) (eO multD (eC (.str "q")) (callE lenD (eCons (eV 2) eNil)))) (eV 2))) (tstB (cmE .Lt (callE lenD (eCons (eV 2) eNil)) (eC (.int 8))))) (mlsE (eCons (eO addD (slE (eV 3) eN (eS (eC (.int 1)))) (eO multD (eC (.str "q")) (callE lenD (eCons (eV 2) eNil)))) eNil)) (mlsE eNil))))) sNx))) (seqM (sRt (callE sortedD (eCons (eV 2) eNil))) sNx))) 5 := rfl
noncomputable def f_law_number : List D → Mo D := runB (seqM (sPar 2 3 (eCons (callE (runN 2 f_law_draw) (eCons (eV 0) (eCons (eO addD (eV 1) (eC (.int 1))) eNil))) (eCons (eO addD (eC (.int 1)) (callE (runN 2 f_law_draw) (eCons (eV 0) (eCons (callE (runN 2 f_law_pick) (eCons (eV 0) (eCons (mlsE (eCons (eC (.int 1)) (eCons (eC (.int 1)) (eCons (eC (.int 3)) (eCons (eV 1) eNil))))) eNil))) eNil)))) eNil))) (seqM (sRt (callE (runN 2 f_law_q) (eCons (iteM (tstB (cmE .Eq (callE (runN 2 f_law_draw) (eCons (eV 0) (eCons (eC (.int 2)) eNil))) (eC (.int 0)))) (eV 2) (eO subD (eC (.int 0)) (eV 2))) (eCons (eV 3) eNil)))) sNx)) 4
theorem c_law_number : f_law_number = runB (seqM (sPar 2 3 (eCons (callE (runN 2 f_law_draw) (eCons (eV 0) (eCons (eO addD (eV 1) (eC (.int 1))) eNil))) (eCons (eO addD (eC (.int 1)) (callE (runN 2 f_law_draw) (eCons (eV 0) (eCons (callE (runN 2 f_law_pick) (eCons (eV 0) (eCons (mlsE (eCons (eC (.int 1)) (eCons (eC (.int 1)) (eCons (eC (.int 3)) (eCons (eV 1) eNil))))) eNil))) eNil)))) eNil))) (seqM (sRt (callE (runN 2 f_law_q) (eCons (iteM (tstB (cmE .Eq (callE (runN 2 f_law_draw) (eCons (eV 0) (eCons (eC (.int 2)) eNil))) (eC (.int 0)))) (eV 2) (eO subD (eC (.int 0)) (eV 2))) (eCons (eV 3) eNil)))) sNx)) 4 := rfl
noncomputable def f_law_vector : List D → Mo D := runB (seqM (sRt (callE tupleD (eCons (lstE (lcC (asgN 3) tYes (callE (runN 2 f_law_pick) (eCons (eV 0) (eCons (mlsE (eCons (tupE (eCons (eC (.int 0)) (eCons (eC (.int 1)) eNil))) (eCons (callE (runN 2 f_law_number) (eCons (eV 0) (eCons (eV 2) eNil))) (eCons (callE (runN 2 f_law_number) (eCons (eV 0) (eCons (eV 2) eNil))) eNil)))) eNil))) [3] (rngI 1 (eCons (eV 1) eNil)))) eNil))) sNx) 4
theorem c_law_vector : f_law_vector = runB (seqM (sRt (callE tupleD (eCons (lstE (lcC (asgN 3) tYes (callE (runN 2 f_law_pick) (eCons (eV 0) (eCons (mlsE (eCons (tupE (eCons (eC (.int 0)) (eCons (eC (.int 1)) eNil))) (eCons (callE (runN 2 f_law_number) (eCons (eV 0) (eCons (eV 2) eNil))) (eCons (callE (runN 2 f_law_number) (eCons (eV 0) (eCons (eV 2) eNil))) eNil)))) eNil))) [3] (rngI 1 (eCons (eV 1) eNil)))) eNil))) sNx) 4 := rfl
noncomputable def f_law_dot : List D → Mo D := runB (seqM (sRt (callE (runN 1 f_law_sum) (eCons (lstE (lcC (asgT 2 (asgCons (asgN 2) (asgCons (asgN 3) asgNil))) tYes (callE (runN 2 f_law_times) (eCons (eV 2) (eCons (eV 3) eNil))) [2, 3] (zipI (eCons (eV 0) (eCons (eV 1) eNil))))) eNil))) sNx) 4
theorem c_law_dot : f_law_dot = runB (seqM (sRt (callE (runN 1 f_law_sum) (eCons (lstE (lcC (asgT 2 (asgCons (asgN 2) (asgCons (asgN 3) asgNil))) tYes (callE (runN 2 f_law_times) (eCons (eV 2) (eCons (eV 3) eNil))) [2, 3] (zipI (eCons (eV 0) (eCons (eV 1) eNil))))) eNil))) sNx) 4 := rfl
noncomputable def f_law_odd : List D → Mo D := runB (seqM (sSet 1 (mlsE (eCons (eC .non) (eCons (eC (.bl true)) (eCons (eC (.int 0)) (eCons (eC (.int 5)) (eCons (eC (.str "")) (eCons (eC (.str "table")) (eCons (tupE eNil) (eCons (mlsE eNil) (eCons (eC .dnil) (eCons (tupE (eCons (tupE (eCons (eC (.int 0)) (eCons (eC (.int 1)) eNil))) (eCons (tupE (eCons (eC (.int 1)) (eCons (eC (.int 1)) eNil))) eNil))) (eCons (tupE (eCons (eC (.str "table")) eNil)) (eCons (tupE (eCons (eC (.str "program")) (eCons (tupE eNil) eNil))) (eCons (tupE (eCons (eC (.str "table")) (eCons (tupE eNil) eNil))) (eCons (tupE (eCons (eC (.str "standin")) (eCons (tupE eNil) eNil))) eNil)))))))))))))))) (seqM (sRt (callE (runN 2 f_law_pick) (eCons (eV 0) (eCons (eO addD (eV 1) (mlsE (eCons (tupE (eCons (eC (.str "program")) (eCons (tupE (eCons (tupE (eCons (eC (.int 1)) (eCons (eC (.int 1)) eNil))) eNil)) eNil))) (eCons (tupE (eCons (eC (.str "table")) (eCons (tupE (eCons (tupE (eCons (eC (.str "a")) (eCons (tupE (eCons (tupE (eCons (eC (.int 1)) (eCons (eC (.int 1)) eNil))) eNil)) eNil))) eNil)) eNil))) (eCons (tupE (eCons (eC (.str "standin")) (eCons (tupE (eCons (tupE eNil) (eCons (tupE eNil) eNil))) eNil))) eNil))))) eNil)))) sNx)) 2
theorem c_law_odd : f_law_odd = runB (seqM (sSet 1 (mlsE (eCons (eC .non) (eCons (eC (.bl true)) (eCons (eC (.int 0)) (eCons (eC (.int 5)) (eCons (eC (.str "")) (eCons (eC (.str "table")) (eCons (tupE eNil) (eCons (mlsE eNil) (eCons (eC .dnil) (eCons (tupE (eCons (tupE (eCons (eC (.int 0)) (eCons (eC (.int 1)) eNil))) (eCons (tupE (eCons (eC (.int 1)) (eCons (eC (.int 1)) eNil))) eNil))) (eCons (tupE (eCons (eC (.str "table")) eNil)) (eCons (tupE (eCons (eC (.str "program")) (eCons (tupE eNil) eNil))) (eCons (tupE (eCons (eC (.str "table")) (eCons (tupE eNil) eNil))) (eCons (tupE (eCons (eC (.str "standin")) (eCons (tupE eNil) eNil))) eNil)))))))))))))))) (seqM (sRt (callE (runN 2 f_law_pick) (eCons (eV 0) (eCons (eO addD (eV 1) (mlsE (eCons (tupE (eCons (eC (.str "program")) (eCons (tupE (eCons (tupE (eCons (eC (.int 1)) (eCons (eC (.int 1)) eNil))) eNil)) eNil))) (eCons (tupE (eCons (eC (.str "table")) (eCons (tupE (eCons (tupE (eCons (eC (.str "a")) (eCons (tupE (eCons (tupE (eCons (eC (.int 1)) (eCons (eC (.int 1)) eNil))) eNil)) eNil))) eNil)) eNil))) (eCons (tupE (eCons (eC (.str "standin")) (eCons (tupE (eCons (tupE eNil) (eCons (tupE eNil) eNil))) eNil))) eNil))))) eNil)))) sNx)) 2 := rfl
noncomputable def f_law_ph_is_ratio : List D → Mo D := runB (seqM (iteM (tOr (notT (truT (isiE "tuple" (eV 0)))) (tOr (tstB (cmE .NotEq (callE lenD (eCons (eV 0) eNil)) (eC (.int 2)))) (tstB (cmE .NotEq (lstE (lcC (asgN 1) (tOr (notT (truT (isiE "int" (eV 1)))) (truT (isiE "bool" (eV 1)))) (eC (.int 1)) [1] (seqI (eV 0)))) (mlsE eNil))))) (seqM (sRt (eC (.bl false))) sNx) sNx) (seqM (sRt (eAnd (cmE .Gt (ixE (eV 0) (eC (.int 1))) (eC (.int 0))) (cmE .Eq (callE (runN 2 f_law_q) (eCons (ixE (eV 0) (eC (.int 0))) (eCons (ixE (eV 0) (eC (.int 1))) eNil))) (eV 0)))) sNx)) 2
theorem c_law_ph_is_ratio : f_law_ph_is_ratio = runB (seqM (iteM (tOr (notT (truT (isiE "tuple" (eV 0)))) (tOr (tstB (cmE .NotEq (callE lenD (eCons (eV 0) eNil)) (eC (.int 2)))) (tstB (cmE .NotEq (lstE (lcC (asgN 1) (tOr (notT (truT (isiE "int" (eV 1)))) (truT (isiE "bool" (eV 1)))) (eC (.int 1)) [1] (seqI (eV 0)))) (mlsE eNil))))) (seqM (sRt (eC (.bl false))) sNx) sNx) (seqM (sRt (eAnd (cmE .Gt (ixE (eV 0) (eC (.int 1))) (eC (.int 0))) (cmE .Eq (callE (runN 2 f_law_q) (eCons (ixE (eV 0) (eC (.int 0))) (eCons (ixE (eV 0) (eC (.int 1))) eNil))) (eV 0)))) sNx)) 2 := rfl
noncomputable def f_law_ph_is_vector : List D → Mo D := runB (seqM (sRt (eAnd (isiE "tuple" (eV 0)) (eAnd (cmE .Eq (callE lenD (eCons (eV 0) eNil)) (eV 1)) (cmE .Eq (lstE (lcC (asgN 2) (notT (truT (callE (runN 1 f_law_ph_is_ratio) (eCons (eV 2) eNil)))) (eC (.int 1)) [2] (seqI (eV 0)))) (mlsE eNil))))) sNx) 3
theorem c_law_ph_is_vector : f_law_ph_is_vector = runB (seqM (sRt (eAnd (isiE "tuple" (eV 0)) (eAnd (cmE .Eq (callE lenD (eCons (eV 0) eNil)) (eV 1)) (cmE .Eq (lstE (lcC (asgN 2) (notT (truT (callE (runN 1 f_law_ph_is_ratio) (eCons (eV 2) eNil)))) (eC (.int 1)) [2] (seqI (eV 0)))) (mlsE eNil))))) sNx) 3 := rfl
noncomputable def f_law_ph_keeps : List D → Mo D := runB (seqM (sRt (cmE .Eq (lstE (lcC (asgT 2 (asgCons (asgN 2) (asgCons (asgN 3) asgNil))) (truT (callE (runN 2 f_law_less) (eCons (callE (runN 2 f_law_dot) (eCons (eV 2) (eCons (eV 1) eNil))) (eCons (eV 3) eNil)))) (eC (.int 1)) [2, 3] (seqI (eV 0)))) (mlsE eNil))) sNx) 4
theorem c_law_ph_keeps : f_law_ph_keeps = runB (seqM (sRt (cmE .Eq (lstE (lcC (asgT 2 (asgCons (asgN 2) (asgCons (asgN 3) asgNil))) (truT (callE (runN 2 f_law_less) (eCons (callE (runN 2 f_law_dot) (eCons (eV 2) (eCons (eV 1) eNil))) (eCons (eV 3) eNil)))) (eC (.int 1)) [2, 3] (seqI (eV 0)))) (mlsE eNil))) sNx) 4 := rfl
noncomputable def f_law_ph_turned : List D → Mo D := runB (seqM (sRt (callE tupleD (eCons (lstE (lcC (asgN 1) tYes (tupE (eCons (eO subD (eC (.int 0)) (ixE (eV 1) (eC (.int 0)))) (eCons (ixE (eV 1) (eC (.int 1))) eNil))) [1] (seqI (eV 0)))) eNil))) sNx) 2
theorem c_law_ph_turned : f_law_ph_turned = runB (seqM (sRt (callE tupleD (eCons (lstE (lcC (asgN 1) tYes (tupE (eCons (eO subD (eC (.int 0)) (ixE (eV 1) (eC (.int 0)))) (eCons (ixE (eV 1) (eC (.int 1))) eNil))) [1] (seqI (eV 0)))) eNil))) sNx) 2 := rfl
noncomputable def f_law_ph_bent : Nat → List D → Mo D
  | 0 => fun _ => Mo.fail
  | n + 1 => runB (seqM (iteM (tOr (notT (truT (isiE "tuple" (eV 1)))) (tOr (tstB (cmE .Eq (eV 1) (tupE eNil))) (tstB (cmE .Eq (callE (runN 2 f_law_draw) (eCons (eV 0) (eCons (eC (.int 6)) eNil))) (eC (.int 0)))))) (seqM (sSet 2 (mlsE (eCons (eC .non) (eCons (eC (.bl true)) (eCons (eC (.int 0)) (eCons (tupE eNil) (eCons (mlsE eNil) (eCons (eC (.str "some")) (eCons (tupE (eCons (eC (.int 0)) (eCons (eC (.int 1)) eNil))) (eCons (tupE (eCons (eC (.int 1)) (eCons (eC (.int 1)) eNil))) (eCons (tupE (eCons (negE (eC (.int 1))) (eCons (eC (.int 1)) eNil))) (eCons (tupE (eCons (eC (.int 2)) (eCons (eC (.int 4)) eNil))) (eCons (tupE (eCons (eC (.bl true)) (eCons (eC (.int 1)) eNil))) (eCons (tupE (eCons (eC (.int 1)) (eCons (eC (.int 0)) eNil))) (eCons (tupE (eCons (tupE (eCons (eC (.int 0)) (eCons (eC (.int 1)) eNil))) eNil)) eNil))))))))))))))) (seqM (iteM (truT (callE (runN 1 f_law_ph_is_ratio) (eCons (eV 1) eNil))) (seqM (sSet 2 (eO addD (eV 2) (mlsE (eCons (callE (runN 2 f_law_plus) (eCons (eV 1) (eCons (tupE (eCons (eC (.int 1)) (eCons (eC (.int 1)) eNil))) eNil))) (eCons (callE (runN 2 f_law_minus) (eCons (eV 1) (eCons (tupE (eCons (eC (.int 1)) (eCons (eC (.int 7)) eNil))) eNil))) (eCons (tupE (eCons (eO subD (eC (.int 0)) (ixE (eV 1) (eC (.int 0)))) (eCons (ixE (eV 1) (eC (.int 1))) eNil))) (eCons (tupE (eCons (eO multD (eC (.int 2)) (ixE (eV 1) (eC (.int 0)))) (eCons (eO multD (eC (.int 2)) (ixE (eV 1) (eC (.int 1)))) eNil))) eNil))))))) sNx) sNx) (seqM (iteM (truT (isiE "tuple" (eV 1))) (seqM (sSet 2 (eO addD (eV 2) (mlsE (eCons (slE (eV 1) (eS (eC (.int 1))) eN) (eCons (slE (eV 1) eN (eS (negE (eC (.int 1))))) (eCons (eO addD (eV 1) (slE (eV 1) (eS (negE (eC (.int 1)))) eN)) (eCons (callE listD (eCons (eV 1) eNil)) (eCons (backE (eV 1)) eNil)))))))) sNx) sNx) (seqM (sRt (callE (runN 2 f_law_pick) (eCons (eV 0) (eCons (eV 2) eNil)))) sNx)))) sNx) (seqM (sSet 3 (callE (runN 2 f_law_draw) (eCons (eV 0) (eCons (callE lenD (eCons (eV 1) eNil)) eNil)))) (seqM (sRt (eO addD (eO addD (slE (eV 1) eN (eS (eV 3))) (tupE (eCons (callE (runN 2 (f_law_ph_bent n)) (eCons (eV 0) (eCons (ixE (eV 1) (eV 3)) eNil))) eNil))) (slE (eV 1) (eS (eO addD (eV 3) (eC (.int 1)))) eN))) sNx))) 4
theorem c_law_ph_bent (n : Nat) : f_law_ph_bent (n + 1) = runB (seqM (iteM (tOr (notT (truT (isiE "tuple" (eV 1)))) (tOr (tstB (cmE .Eq (eV 1) (tupE eNil))) (tstB (cmE .Eq (callE (runN 2 f_law_draw) (eCons (eV 0) (eCons (eC (.int 6)) eNil))) (eC (.int 0)))))) (seqM (sSet 2 (mlsE (eCons (eC .non) (eCons (eC (.bl true)) (eCons (eC (.int 0)) (eCons (tupE eNil) (eCons (mlsE eNil) (eCons (eC (.str "some")) (eCons (tupE (eCons (eC (.int 0)) (eCons (eC (.int 1)) eNil))) (eCons (tupE (eCons (eC (.int 1)) (eCons (eC (.int 1)) eNil))) (eCons (tupE (eCons (negE (eC (.int 1))) (eCons (eC (.int 1)) eNil))) (eCons (tupE (eCons (eC (.int 2)) (eCons (eC (.int 4)) eNil))) (eCons (tupE (eCons (eC (.bl true)) (eCons (eC (.int 1)) eNil))) (eCons (tupE (eCons (eC (.int 1)) (eCons (eC (.int 0)) eNil))) (eCons (tupE (eCons (tupE (eCons (eC (.int 0)) (eCons (eC (.int 1)) eNil))) eNil)) eNil))))))))))))))) (seqM (iteM (truT (callE (runN 1 f_law_ph_is_ratio) (eCons (eV 1) eNil))) (seqM (sSet 2 (eO addD (eV 2) (mlsE (eCons (callE (runN 2 f_law_plus) (eCons (eV 1) (eCons (tupE (eCons (eC (.int 1)) (eCons (eC (.int 1)) eNil))) eNil))) (eCons (callE (runN 2 f_law_minus) (eCons (eV 1) (eCons (tupE (eCons (eC (.int 1)) (eCons (eC (.int 7)) eNil))) eNil))) (eCons (tupE (eCons (eO subD (eC (.int 0)) (ixE (eV 1) (eC (.int 0)))) (eCons (ixE (eV 1) (eC (.int 1))) eNil))) (eCons (tupE (eCons (eO multD (eC (.int 2)) (ixE (eV 1) (eC (.int 0)))) (eCons (eO multD (eC (.int 2)) (ixE (eV 1) (eC (.int 1)))) eNil))) eNil))))))) sNx) sNx) (seqM (iteM (truT (isiE "tuple" (eV 1))) (seqM (sSet 2 (eO addD (eV 2) (mlsE (eCons (slE (eV 1) (eS (eC (.int 1))) eN) (eCons (slE (eV 1) eN (eS (negE (eC (.int 1))))) (eCons (eO addD (eV 1) (slE (eV 1) (eS (negE (eC (.int 1)))) eN)) (eCons (callE listD (eCons (eV 1) eNil)) (eCons (backE (eV 1)) eNil)))))))) sNx) sNx) (seqM (sRt (callE (runN 2 f_law_pick) (eCons (eV 0) (eCons (eV 2) eNil)))) sNx)))) sNx) (seqM (sSet 3 (callE (runN 2 f_law_draw) (eCons (eV 0) (eCons (callE lenD (eCons (eV 1) eNil)) eNil)))) (seqM (sRt (eO addD (eO addD (slE (eV 1) eN (eS (eV 3))) (tupE (eCons (callE (runN 2 (f_law_ph_bent n)) (eCons (eV 0) (eCons (ixE (eV 1) (eV 3)) eNil))) eNil))) (slE (eV 1) (eS (eO addD (eV 3) (eC (.int 1)))) eN))) sNx))) 4 := rfl
noncomputable def f_law_ln_worths : List D → Mo D := runB (seqM (sRt (lstE (lcC (asgT 2 (asgCons (asgN 2) (asgCons (asgN 3) asgNil))) tYes (callE (runN 2 f_law_plus) (eCons (callE (runN 2 f_law_dot) (eCons (slE (eV 3) eN (eS (negE (eC (.int 1))))) (eCons (eV 1) eNil))) (eCons (ixE (eV 3) (negE (eC (.int 1)))) eNil))) [2, 3] (seqI (ixE (eV 0) (eC (.int 1))))))) sNx) 4
theorem c_law_ln_worths : f_law_ln_worths = runB (seqM (sRt (lstE (lcC (asgT 2 (asgCons (asgN 2) (asgCons (asgN 3) asgNil))) tYes (callE (runN 2 f_law_plus) (eCons (callE (runN 2 f_law_dot) (eCons (slE (eV 3) eN (eS (negE (eC (.int 1))))) (eCons (eV 1) eNil))) (eCons (ixE (eV 3) (negE (eC (.int 1)))) eNil))) [2, 3] (seqI (ixE (eV 0) (eC (.int 1))))))) sNx) 4 := rfl
noncomputable def f_law_ln_chosen : List D → Mo D := runB (seqM (sSet 2 (callE (runN 2 f_law_ln_worths) (eCons (eV 0) (eCons (eV 1) eNil)))) (seqM (sRt (callE tupleD (eCons (lstE (lcC (asgN 3) (tstB (cmE .Eq (lstE (lcC (asgN 4) (truT (callE (runN 2 f_law_less) (eCons (ixE (eV 2) (eV 3)) (eCons (eV 4) eNil)))) (eC (.int 1)) [4] (seqI (eV 2)))) (mlsE eNil))) (ixE (ixE (ixE (eV 0) (eC (.int 1))) (eV 3)) (eC (.int 0))) [3] (rngI 1 (eCons (callE lenD (eCons (eV 2) eNil)) eNil)))) eNil))) sNx)) 5
theorem c_law_ln_chosen : f_law_ln_chosen = runB (seqM (sSet 2 (callE (runN 2 f_law_ln_worths) (eCons (eV 0) (eCons (eV 1) eNil)))) (seqM (sRt (callE tupleD (eCons (lstE (lcC (asgN 3) (tstB (cmE .Eq (lstE (lcC (asgN 4) (truT (callE (runN 2 f_law_less) (eCons (ixE (eV 2) (eV 3)) (eCons (eV 4) eNil)))) (eC (.int 1)) [4] (seqI (eV 2)))) (mlsE eNil))) (ixE (ixE (ixE (eV 0) (eC (.int 1))) (eV 3)) (eC (.int 0))) [3] (rngI 1 (eCons (callE lenD (eCons (eV 2) eNil)) eNil)))) eNil))) sNx)) 5 := rfl
noncomputable def f_law_ln_limits : List D → Mo D := runB (seqM (sSet 2 (ixE (lstE (lcC (asgT 2 (asgCons (asgN 3) (asgCons (asgN 4) asgNil))) (tstB (cmE .Eq (eV 3) (eV 1))) (eV 4) [3, 4] (seqI (ixE (eV 0) (eC (.int 1)))))) (eC (.int 0)))) (seqM (sNew 5 (nLst eNil)) (seqM (sFor (asgT 2 (asgCons (asgN 3) (asgCons (asgN 4) asgNil))) (seqI (ixE (eV 0) (eC (.int 1)))) (seqM (iteM (tstB (cmE .NotEq (eV 3) (eV 1))) (seqM (apE 5 (tupE (eCons (callE tupleD (eCons (lstE (lcC (asgT 2 (asgCons (asgN 6) (asgCons (asgN 7) asgNil))) tYes (callE (runN 2 f_law_minus) (eCons (eV 6) (eCons (eV 7) eNil))) [6, 7] (zipI (eCons (slE (eV 2) eN (eS (negE (eC (.int 1))))) (eCons (slE (eV 4) eN (eS (negE (eC (.int 1))))) eNil))))) eNil)) (eCons (callE (runN 2 f_law_minus) (eCons (ixE (eV 4) (negE (eC (.int 1)))) (eCons (ixE (eV 2) (negE (eC (.int 1)))) eNil))) eNil)))) sNx) sNx) sNx)) (seqM (sRt (callE tupleD (eCons (eV 5) eNil))) sNx)))) 8
theorem c_law_ln_limits : f_law_ln_limits = runB (seqM (sSet 2 (ixE (lstE (lcC (asgT 2 (asgCons (asgN 3) (asgCons (asgN 4) asgNil))) (tstB (cmE .Eq (eV 3) (eV 1))) (eV 4) [3, 4] (seqI (ixE (eV 0) (eC (.int 1)))))) (eC (.int 0)))) (seqM (sNew 5 (nLst eNil)) (seqM (sFor (asgT 2 (asgCons (asgN 3) (asgCons (asgN 4) asgNil))) (seqI (ixE (eV 0) (eC (.int 1)))) (seqM (iteM (tstB (cmE .NotEq (eV 3) (eV 1))) (seqM (apE 5 (tupE (eCons (callE tupleD (eCons (lstE (lcC (asgT 2 (asgCons (asgN 6) (asgCons (asgN 7) asgNil))) tYes (callE (runN 2 f_law_minus) (eCons (eV 6) (eCons (eV 7) eNil))) [6, 7] (zipI (eCons (slE (eV 2) eN (eS (negE (eC (.int 1))))) (eCons (slE (eV 4) eN (eS (negE (eC (.int 1))))) eNil))))) eNil)) (eCons (callE (runN 2 f_law_minus) (eCons (ixE (eV 4) (negE (eC (.int 1)))) (eCons (ixE (eV 2) (negE (eC (.int 1)))) eNil))) eNil)))) sNx) sNx) sNx)) (seqM (sRt (callE tupleD (eCons (eV 5) eNil))) sNx)))) 8 := rfl
noncomputable def f_law_is_word : List D → Mo D := runB (seqM (sRt (eAnd (isiE "str" (eV 0)) (eAnd (chE .LtE .LtE (eC (.int 1)) (callE lenD (eCons (eV 0) eNil)) (eC (.int 8))) (cmE .Eq (lstE (lcC (asgN 1) (tstB (cmE .NotIn (eV 1) (eC (.str "abcdefghijklmnopqrstuvwxyz")))) (eV 1) [1] (seqI (eV 0)))) (mlsE eNil))))) sNx) 2
theorem c_law_is_word : f_law_is_word = runB (seqM (sRt (eAnd (isiE "str" (eV 0)) (eAnd (chE .LtE .LtE (eC (.int 1)) (callE lenD (eCons (eV 0) eNil)) (eC (.int 8))) (cmE .Eq (lstE (lcC (asgN 1) (tstB (cmE .NotIn (eV 1) (eC (.str "abcdefghijklmnopqrstuvwxyz")))) (eV 1) [1] (seqI (eV 0)))) (mlsE eNil))))) sNx) 2 := rfl
noncomputable def f_law_is_lines : List D → Mo D := runB (seqM (iteM (tOr (notT (truT (isiE "tuple" (eV 0)))) (tOr (tstB (cmE .NotEq (callE lenD (eCons (eV 0) eNil)) (eC (.int 2)))) (tOr (notT (truT (isiE "str" (ixE (eV 0) (eC (.int 0)))))) (tOr (tstB (cmE .NotEq (ixE (eV 0) (eC (.int 0))) (eC (.str "lines")))) (notT (truT (isiE "tuple" (ixE (eV 0) (eC (.int 1)))))))))) (seqM (sRt (eC (.bl false))) sNx) sNx) (seqM (sSet 1 (ixE (eV 0) (eC (.int 1)))) (seqM (iteM (tOr (notT (tstB (chE .LtE .LtE (eC (.int 1)) (callE lenD (eCons (eV 1) eNil)) (eC (.int 6))))) (tstB (cmE .NotEq (lstE (lcC (asgN 2) (tOr (notT (truT (isiE "tuple" (eV 2)))) (tOr (tstB (cmE .NotEq (callE lenD (eCons (eV 2) eNil)) (eC (.int 2)))) (tOr (notT (truT (callE (runN 1 f_law_is_word) (eCons (ixE (eV 2) (eC (.int 0))) eNil)))) (notT (truT (isiE "tuple" (ixE (eV 2) (eC (.int 1))))))))) (eC (.int 1)) [2] (seqI (eV 1)))) (mlsE eNil)))) (seqM (sRt (eC (.bl false))) sNx) sNx) (seqM (sSet 3 (callE lenD (eCons (ixE (ixE (eV 1) (eC (.int 0))) (eC (.int 1))) eNil))) (seqM (iteM (tOr (notT (tstB (chE .LtE .LtE (eC (.int 2)) (eV 3) (eC (.int 4))))) (tstB (cmE .NotEq (lstE (lcC (asgN 2) (notT (truT (callE (runN 2 f_law_ph_is_vector) (eCons (ixE (eV 2) (eC (.int 1))) (eCons (eV 3) eNil))))) (eC (.int 1)) [2] (seqI (eV 1)))) (mlsE eNil)))) (seqM (sRt (eC (.bl false))) sNx) sNx) (seqM (sRt (cmE .Eq (lstE (lcC (asgN 4) (tstB (cmE .GtE (ixE (ixE (eV 1) (eV 4)) (eC (.int 0))) (ixE (ixE (eV 1) (eO addD (eV 4) (eC (.int 1)))) (eC (.int 0))))) (eV 4) [4] (rngI 1 (eCons (eO subD (callE lenD (eCons (eV 1) eNil)) (eC (.int 1))) eNil)))) (mlsE eNil))) sNx)))))) 5
theorem c_law_is_lines : f_law_is_lines = runB (seqM (iteM (tOr (notT (truT (isiE "tuple" (eV 0)))) (tOr (tstB (cmE .NotEq (callE lenD (eCons (eV 0) eNil)) (eC (.int 2)))) (tOr (notT (truT (isiE "str" (ixE (eV 0) (eC (.int 0)))))) (tOr (tstB (cmE .NotEq (ixE (eV 0) (eC (.int 0))) (eC (.str "lines")))) (notT (truT (isiE "tuple" (ixE (eV 0) (eC (.int 1)))))))))) (seqM (sRt (eC (.bl false))) sNx) sNx) (seqM (sSet 1 (ixE (eV 0) (eC (.int 1)))) (seqM (iteM (tOr (notT (tstB (chE .LtE .LtE (eC (.int 1)) (callE lenD (eCons (eV 1) eNil)) (eC (.int 6))))) (tstB (cmE .NotEq (lstE (lcC (asgN 2) (tOr (notT (truT (isiE "tuple" (eV 2)))) (tOr (tstB (cmE .NotEq (callE lenD (eCons (eV 2) eNil)) (eC (.int 2)))) (tOr (notT (truT (callE (runN 1 f_law_is_word) (eCons (ixE (eV 2) (eC (.int 0))) eNil)))) (notT (truT (isiE "tuple" (ixE (eV 2) (eC (.int 1))))))))) (eC (.int 1)) [2] (seqI (eV 1)))) (mlsE eNil)))) (seqM (sRt (eC (.bl false))) sNx) sNx) (seqM (sSet 3 (callE lenD (eCons (ixE (ixE (eV 1) (eC (.int 0))) (eC (.int 1))) eNil))) (seqM (iteM (tOr (notT (tstB (chE .LtE .LtE (eC (.int 2)) (eV 3) (eC (.int 4))))) (tstB (cmE .NotEq (lstE (lcC (asgN 2) (notT (truT (callE (runN 2 f_law_ph_is_vector) (eCons (ixE (eV 2) (eC (.int 1))) (eCons (eV 3) eNil))))) (eC (.int 1)) [2] (seqI (eV 1)))) (mlsE eNil)))) (seqM (sRt (eC (.bl false))) sNx) sNx) (seqM (sRt (cmE .Eq (lstE (lcC (asgN 4) (tstB (cmE .GtE (ixE (ixE (eV 1) (eV 4)) (eC (.int 0))) (ixE (ixE (eV 1) (eO addD (eV 4) (eC (.int 1)))) (eC (.int 0))))) (eV 4) [4] (rngI 1 (eCons (eO subD (callE lenD (eCons (eV 1) eNil)) (eC (.int 1))) eNil)))) (mlsE eNil))) sNx)))))) 5 := rfl
noncomputable def f_law_lines : List D → Mo D := runB (seqM (sPar 1 2 (eCons (eO addD (eC (.int 1)) (callE (runN 2 f_law_draw) (eCons (eV 0) (eCons (eC (.int 3)) eNil)))) (eCons (callE (runN 2 f_law_words) (eCons (eV 0) (eCons (eO addD (eC (.int 1)) (callE (runN 2 f_law_draw) (eCons (eV 0) (eCons (eC (.int 6)) eNil)))) eNil))) eNil))) (seqM (parC 3 4 (nLst eNil) (callE (runN 2 f_law_pick) (eCons (eV 0) (eCons (mlsE (eCons (eC (.int 1)) (eCons (eC (.int 2)) (eCons (eC (.int 9)) (eCons (eO powD (eC (.int 10)) (eC (.int 6))) eNil))))) eNil)))) (seqM (sFor (asgN 5) (seqI (eV 2)) (seqM (sSet 6 (mlsE (eCons (callE (runN 3 f_law_vector) (eCons (eV 0) (eCons (eO addD (eV 1) (eC (.int 1))) (eCons (eV 4) eNil)))) (eCons (callE (runN 3 f_law_vector) (eCons (eV 0) (eCons (eO addD (eV 1) (eC (.int 1))) (eCons (eV 4) eNil)))) eNil)))) (seqM (iteM (bT (tstB (cmE .NotEq (eV 3) (mlsE eNil)))) (seqM (sSet 7 (bE (callE (runN 2 f_law_pick) (eCons (eV 0) (eCons (eV 3) eNil))))) (seqM (sSet 6 (eO addD (eV 6) (mlsE (eCons (eV 7) (eCons (eO addD (slE (eV 7) eN (eS (negE (eC (.int 1))))) (tupE (eCons (callE (runN 2 f_law_minus) (eCons (ixE (eV 7) (negE (eC (.int 1)))) (eCons (tupE (eCons (eC (.int 1)) (eCons (eC (.int 1)) eNil))) eNil))) eNil))) (eCons (callE (runN 1 f_law_ph_turned) (eCons (eV 7) eNil)) eNil)))))) sNx)) sNx) (seqM (apE 3 (callE (runN 2 f_law_pick) (eCons (eV 0) (eCons (eV 6) eNil)))) sNx)))) (seqM (sRt (tupE (eCons (eC (.str "lines")) (eCons (callE tupleD (eCons (lstE (lcC (asgT 2 (asgCons (asgN 5) (asgCons (asgN 8) asgNil))) tYes (tupE (eCons (eV 5) (eCons (eV 8) eNil))) [5, 8] (zipI (eCons (eV 2) (eCons (eV 3) eNil))))) eNil)) eNil)))) sNx)))) 9
theorem c_law_lines : f_law_lines = runB (seqM (sPar 1 2 (eCons (eO addD (eC (.int 1)) (callE (runN 2 f_law_draw) (eCons (eV 0) (eCons (eC (.int 3)) eNil)))) (eCons (callE (runN 2 f_law_words) (eCons (eV 0) (eCons (eO addD (eC (.int 1)) (callE (runN 2 f_law_draw) (eCons (eV 0) (eCons (eC (.int 6)) eNil)))) eNil))) eNil))) (seqM (parC 3 4 (nLst eNil) (callE (runN 2 f_law_pick) (eCons (eV 0) (eCons (mlsE (eCons (eC (.int 1)) (eCons (eC (.int 2)) (eCons (eC (.int 9)) (eCons (eO powD (eC (.int 10)) (eC (.int 6))) eNil))))) eNil)))) (seqM (sFor (asgN 5) (seqI (eV 2)) (seqM (sSet 6 (mlsE (eCons (callE (runN 3 f_law_vector) (eCons (eV 0) (eCons (eO addD (eV 1) (eC (.int 1))) (eCons (eV 4) eNil)))) (eCons (callE (runN 3 f_law_vector) (eCons (eV 0) (eCons (eO addD (eV 1) (eC (.int 1))) (eCons (eV 4) eNil)))) eNil)))) (seqM (iteM (bT (tstB (cmE .NotEq (eV 3) (mlsE eNil)))) (seqM (sSet 7 (bE (callE (runN 2 f_law_pick) (eCons (eV 0) (eCons (eV 3) eNil))))) (seqM (sSet 6 (eO addD (eV 6) (mlsE (eCons (eV 7) (eCons (eO addD (slE (eV 7) eN (eS (negE (eC (.int 1))))) (tupE (eCons (callE (runN 2 f_law_minus) (eCons (ixE (eV 7) (negE (eC (.int 1)))) (eCons (tupE (eCons (eC (.int 1)) (eCons (eC (.int 1)) eNil))) eNil))) eNil))) (eCons (callE (runN 1 f_law_ph_turned) (eCons (eV 7) eNil)) eNil)))))) sNx)) sNx) (seqM (apE 3 (callE (runN 2 f_law_pick) (eCons (eV 0) (eCons (eV 6) eNil)))) sNx)))) (seqM (sRt (tupE (eCons (eC (.str "lines")) (eCons (callE tupleD (eCons (lstE (lcC (asgT 2 (asgCons (asgN 5) (asgCons (asgN 8) asgNil))) tYes (tupE (eCons (eV 5) (eCons (eV 8) eNil))) [5, 8] (zipI (eCons (eV 2) (eCons (eV 3) eNil))))) eNil)) eNil)))) sNx)))) 9 := rfl
noncomputable def f_law_near : List D → Mo D := runB (seqM (sPar 2 3 (eCons (ixE (eV 1) (eC (.int 1))) (eCons (callE lenD (eCons (ixE (ixE (ixE (eV 1) (eC (.int 1))) (eC (.int 0))) (eC (.int 1))) eNil)) eNil))) (seqM (sSet 4 (eO multD (tupE (eCons (tupE (eCons (eC (.int 0)) (eCons (eC (.int 1)) eNil))) eNil)) (eV 3))) (seqM (sSet 5 (mlsE (eCons (tupE (eCons (eC (.str "lines")) (eCons (backE (eV 2)) eNil))) (eCons (tupE (eCons (eC (.str "lines")) (eCons (eO addD (eV 2) (slE (eV 2) (eS (negE (eC (.int 1)))) eN)) eNil))) (eCons (tupE (eCons (eC (.str "lines")) (eCons (tupE eNil) eNil))) (eCons (callE listD (eCons (eV 1) eNil)) (eCons (tupE (eCons (eC (.str "line")) (eCons (eV 2) eNil))) (eCons (tupE (eCons (eC (.str "lines")) (eCons (callE listD (eCons (eV 2) eNil)) eNil))) eNil)))))))) (seqM (sSet 5 (eO addD (eV 5) (mlsE (eCons (tupE (eCons (eC (.str "lines")) (eCons (tupE (eCons (tupE (eCons (eC (.str "a")) (eCons (tupE (eCons (tupE (eCons (eC (.int 1)) (eCons (eC (.int 1)) eNil))) eNil)) eNil))) eNil)) eNil))) (eCons (tupE (eCons (eC (.str "lines")) (eCons (tupE (eCons (tupE (eCons (eC (.str "a")) (eCons (eO multD (tupE (eCons (tupE (eCons (eC (.int 1)) (eCons (eC (.int 1)) eNil))) eNil)) (eC (.int 5))) eNil))) eNil)) eNil))) (eCons (callE (runN 1 f_law_odd) (eCons (eV 0) eNil)) eNil)))))) (seqM (sSet 5 (eO addD (eV 5) (mlsE (eCons (tupE (eCons (eC (.str "lines")) (eCons (callE tupleD (eCons (lstE (lcC (asgN 6) tYes (tupE (eCons (eV 6) (eCons (eV 4) eNil))) [6] (seqI (slE (mlsE (eCons (eC (.str "a")) (eCons (eC (.str "b")) (eCons (eC (.str "c")) (eCons (eC (.str "d")) (eCons (eC (.str "e")) (eCons (eC (.str "f")) (eCons (eC (.str "g")) eNil)))))))) eN (eS (eO addD (eC (.int 6)) (callE (runN 2 f_law_draw) (eCons (eV 0) (eCons (eC (.int 2)) eNil))))))))) eNil)) eNil))) (eCons (tupE (eCons (eC (.str "lines")) (eCons (eO addD (eV 2) (tupE (eCons (tupE (eCons (eC (.str "zzzzzzzz")) (eCons (eO addD (eV 4) (tupE (eCons (tupE (eCons (eC (.int 0)) (eCons (eC (.int 1)) eNil))) eNil))) eNil))) eNil))) eNil))) eNil))))) (seqM (sRt (callE (runN 2 f_law_pick) (eCons (eV 0) (eCons (eO addD (eV 5) (eO multD (mlsE (eCons (callE (runN 2 (f_law_ph_bent bentN)) (eCons (eV 0) (eCons (eV 1) eNil))) eNil)) (eC (.int 12)))) eNil)))) sNx)))))) 7
theorem c_law_near : f_law_near = runB (seqM (sPar 2 3 (eCons (ixE (eV 1) (eC (.int 1))) (eCons (callE lenD (eCons (ixE (ixE (ixE (eV 1) (eC (.int 1))) (eC (.int 0))) (eC (.int 1))) eNil)) eNil))) (seqM (sSet 4 (eO multD (tupE (eCons (tupE (eCons (eC (.int 0)) (eCons (eC (.int 1)) eNil))) eNil)) (eV 3))) (seqM (sSet 5 (mlsE (eCons (tupE (eCons (eC (.str "lines")) (eCons (backE (eV 2)) eNil))) (eCons (tupE (eCons (eC (.str "lines")) (eCons (eO addD (eV 2) (slE (eV 2) (eS (negE (eC (.int 1)))) eN)) eNil))) (eCons (tupE (eCons (eC (.str "lines")) (eCons (tupE eNil) eNil))) (eCons (callE listD (eCons (eV 1) eNil)) (eCons (tupE (eCons (eC (.str "line")) (eCons (eV 2) eNil))) (eCons (tupE (eCons (eC (.str "lines")) (eCons (callE listD (eCons (eV 2) eNil)) eNil))) eNil)))))))) (seqM (sSet 5 (eO addD (eV 5) (mlsE (eCons (tupE (eCons (eC (.str "lines")) (eCons (tupE (eCons (tupE (eCons (eC (.str "a")) (eCons (tupE (eCons (tupE (eCons (eC (.int 1)) (eCons (eC (.int 1)) eNil))) eNil)) eNil))) eNil)) eNil))) (eCons (tupE (eCons (eC (.str "lines")) (eCons (tupE (eCons (tupE (eCons (eC (.str "a")) (eCons (eO multD (tupE (eCons (tupE (eCons (eC (.int 1)) (eCons (eC (.int 1)) eNil))) eNil)) (eC (.int 5))) eNil))) eNil)) eNil))) (eCons (callE (runN 1 f_law_odd) (eCons (eV 0) eNil)) eNil)))))) (seqM (sSet 5 (eO addD (eV 5) (mlsE (eCons (tupE (eCons (eC (.str "lines")) (eCons (callE tupleD (eCons (lstE (lcC (asgN 6) tYes (tupE (eCons (eV 6) (eCons (eV 4) eNil))) [6] (seqI (slE (mlsE (eCons (eC (.str "a")) (eCons (eC (.str "b")) (eCons (eC (.str "c")) (eCons (eC (.str "d")) (eCons (eC (.str "e")) (eCons (eC (.str "f")) (eCons (eC (.str "g")) eNil)))))))) eN (eS (eO addD (eC (.int 6)) (callE (runN 2 f_law_draw) (eCons (eV 0) (eCons (eC (.int 2)) eNil))))))))) eNil)) eNil))) (eCons (tupE (eCons (eC (.str "lines")) (eCons (eO addD (eV 2) (tupE (eCons (tupE (eCons (eC (.str "zzzzzzzz")) (eCons (eO addD (eV 4) (tupE (eCons (tupE (eCons (eC (.int 0)) (eCons (eC (.int 1)) eNil))) eNil))) eNil))) eNil))) eNil))) eNil))))) (seqM (sRt (callE (runN 2 f_law_pick) (eCons (eV 0) (eCons (eO addD (eV 5) (eO multD (mlsE (eCons (callE (runN 2 (f_law_ph_bent bentN)) (eCons (eV 0) (eCons (eV 1) eNil))) eNil)) (eC (.int 12)))) eNil)))) sNx)))))) 7 := rfl
noncomputable def f_law_meeting : List D → Mo D := runB (seqM (sSet 2 (eO subD (callE lenD (eCons (ixE (ixE (ixE (eV 1) (eC (.int 1))) (eC (.int 0))) (eC (.int 1))) eNil)) (eC (.int 1)))) (seqM (sPar 3 4 (eCons (ixE (callE (runN 2 f_law_pick) (eCons (eV 0) (eCons (ixE (eV 1) (eC (.int 1))) eNil))) (eC (.int 1))) (eCons (ixE (callE (runN 2 f_law_pick) (eCons (eV 0) (eCons (ixE (eV 1) (eC (.int 1))) eNil))) (eC (.int 1))) eNil))) (seqM (sAsg (asgT 2 (asgCons (asgN 5) (asgCons (asgN 6) asgNil))) (tupE (eCons (callE tupleD (eCons (lstE (lcC (asgT 2 (asgCons (asgN 7) (asgCons (asgN 8) asgNil))) tYes (callE (runN 2 f_law_minus) (eCons (eV 7) (eCons (eV 8) eNil))) [7, 8] (zipI (eCons (slE (eV 3) eN (eS (negE (eC (.int 1))))) (eCons (slE (eV 4) eN (eS (negE (eC (.int 1))))) eNil))))) eNil)) (eCons (callE (runN 3 f_law_vector) (eCons (eV 0) (eCons (eV 2) (eCons (eC (.int 4)) eNil)))) eNil)))) (seqM (sLcD 9 (lcC (asgN 10) (tstB (cmE .NotEq (ixE (ixE (eV 5) (eV 10)) (eC (.int 0))) (eC (.int 0)))) (eV 10) [10] (rngI 1 (eCons (eV 2) eNil)))) (seqM (iteM (tOr (tstB (cmE .Eq (eV 9) (mlsE eNil))) (tstB (cmE .Eq (callE (runN 2 f_law_draw) (eCons (eV 0) (eCons (eC (.int 3)) eNil))) (eC (.int 0))))) (seqM (sRt (eV 6)) sNx) sNx) (seqM (sSet 11 (callE (runN 2 f_law_plus) (eCons (callE (runN 2 f_law_dot) (eCons (eV 5) (eCons (eV 6) eNil))) (eCons (callE (runN 2 f_law_minus) (eCons (ixE (eV 3) (negE (eC (.int 1)))) (eCons (ixE (eV 4) (negE (eC (.int 1)))) eNil))) eNil)))) (seqM (sSet 10 (ixE (eV 9) (eC (.int 0)))) (seqM (sRt (eO addD (eO addD (slE (eV 6) eN (eS (eV 10))) (tupE (eCons (callE (runN 2 f_law_minus) (eCons (ixE (eV 6) (eV 10)) (eCons (callE (runN 2 f_law_over) (eCons (eV 11) (eCons (ixE (eV 5) (eV 10)) eNil))) eNil))) eNil))) (slE (eV 6) (eS (eO addD (eV 10) (eC (.int 1)))) eN))) sNx)))))))) 12
theorem c_law_meeting : f_law_meeting = runB (seqM (sSet 2 (eO subD (callE lenD (eCons (ixE (ixE (ixE (eV 1) (eC (.int 1))) (eC (.int 0))) (eC (.int 1))) eNil)) (eC (.int 1)))) (seqM (sPar 3 4 (eCons (ixE (callE (runN 2 f_law_pick) (eCons (eV 0) (eCons (ixE (eV 1) (eC (.int 1))) eNil))) (eC (.int 1))) (eCons (ixE (callE (runN 2 f_law_pick) (eCons (eV 0) (eCons (ixE (eV 1) (eC (.int 1))) eNil))) (eC (.int 1))) eNil))) (seqM (sAsg (asgT 2 (asgCons (asgN 5) (asgCons (asgN 6) asgNil))) (tupE (eCons (callE tupleD (eCons (lstE (lcC (asgT 2 (asgCons (asgN 7) (asgCons (asgN 8) asgNil))) tYes (callE (runN 2 f_law_minus) (eCons (eV 7) (eCons (eV 8) eNil))) [7, 8] (zipI (eCons (slE (eV 3) eN (eS (negE (eC (.int 1))))) (eCons (slE (eV 4) eN (eS (negE (eC (.int 1))))) eNil))))) eNil)) (eCons (callE (runN 3 f_law_vector) (eCons (eV 0) (eCons (eV 2) (eCons (eC (.int 4)) eNil)))) eNil)))) (seqM (sLcD 9 (lcC (asgN 10) (tstB (cmE .NotEq (ixE (ixE (eV 5) (eV 10)) (eC (.int 0))) (eC (.int 0)))) (eV 10) [10] (rngI 1 (eCons (eV 2) eNil)))) (seqM (iteM (tOr (tstB (cmE .Eq (eV 9) (mlsE eNil))) (tstB (cmE .Eq (callE (runN 2 f_law_draw) (eCons (eV 0) (eCons (eC (.int 3)) eNil))) (eC (.int 0))))) (seqM (sRt (eV 6)) sNx) sNx) (seqM (sSet 11 (callE (runN 2 f_law_plus) (eCons (callE (runN 2 f_law_dot) (eCons (eV 5) (eCons (eV 6) eNil))) (eCons (callE (runN 2 f_law_minus) (eCons (ixE (eV 3) (negE (eC (.int 1)))) (eCons (ixE (eV 4) (negE (eC (.int 1)))) eNil))) eNil)))) (seqM (sSet 10 (ixE (eV 9) (eC (.int 0)))) (seqM (sRt (eO addD (eO addD (slE (eV 6) eN (eS (eV 10))) (tupE (eCons (callE (runN 2 f_law_minus) (eCons (ixE (eV 6) (eV 10)) (eCons (callE (runN 2 f_law_over) (eCons (eV 11) (eCons (ixE (eV 5) (eV 10)) eNil))) eNil))) eNil))) (slE (eV 6) (eS (eO addD (eV 10) (eC (.int 1)))) eN))) sNx)))))))) 12 := rfl
noncomputable def f_law_points_right : List D → Mo D := runB (seqM (sSet 2 (eO subD (callE lenD (eCons (ixE (ixE (ixE (eV 1) (eC (.int 1))) (eC (.int 0))) (eC (.int 1))) eNil)) (eC (.int 1)))) (seqM (sFor (asgN 3) (rngI 1 (eCons (eC (.int 4)) eNil)) (seqM (sSet 4 (callE (runN 2 f_law_meeting) (eCons (eV 0) (eCons (eV 1) eNil)))) (seqM (sSet 5 (callE (runN 2 f_law_ln_chosen) (eCons (eV 1) (eCons (eV 4) eNil)))) (seqM (iteM (notT (truT (callE (runN 2 f_law_same) (eCons (kw0E 2 [1, 0] f_chosen (eCons (eV 4) (eCons (eV 1) eNil))) (eCons (eV 5) eNil))))) (seqM (sRt (eC (.bl false))) sNx) sNx) (seqM (sFor (asgT 2 (asgCons (asgN 6) (asgCons (asgN 7) asgNil))) (seqI (ixE (eV 1) (eC (.int 1)))) (seqM (sSet 8 (callE (runN 2 f_law_ln_limits) (eCons (eV 1) (eCons (eV 6) eNil)))) (seqM (iteM (tOr (notT (truT (callE (runN 2 f_law_same) (eCons (kwE 1 1 [0, 1] f_region (eCons (eV 1) eNil) (eCons (eV 6) eNil)) (eCons (tupE (eCons (eC (.str "polyhedron")) (eCons (eV 2) (eCons (eV 8) eNil)))) eNil))))) (tstB (cmE .NotEq (callE (runN 2 f_law_ph_keeps) (eCons (eV 8) (eCons (eV 4) eNil))) (cmE .In (eV 6) (eV 5))))) (seqM (sRt (eC (.bl false))) sNx) sNx) sNx))) sNx))))) (seqM (sRt (eC (.bl true))) sNx))) 9
theorem c_law_points_right : f_law_points_right = runB (seqM (sSet 2 (eO subD (callE lenD (eCons (ixE (ixE (ixE (eV 1) (eC (.int 1))) (eC (.int 0))) (eC (.int 1))) eNil)) (eC (.int 1)))) (seqM (sFor (asgN 3) (rngI 1 (eCons (eC (.int 4)) eNil)) (seqM (sSet 4 (callE (runN 2 f_law_meeting) (eCons (eV 0) (eCons (eV 1) eNil)))) (seqM (sSet 5 (callE (runN 2 f_law_ln_chosen) (eCons (eV 1) (eCons (eV 4) eNil)))) (seqM (iteM (notT (truT (callE (runN 2 f_law_same) (eCons (kw0E 2 [1, 0] f_chosen (eCons (eV 4) (eCons (eV 1) eNil))) (eCons (eV 5) eNil))))) (seqM (sRt (eC (.bl false))) sNx) sNx) (seqM (sFor (asgT 2 (asgCons (asgN 6) (asgCons (asgN 7) asgNil))) (seqI (ixE (eV 1) (eC (.int 1)))) (seqM (sSet 8 (callE (runN 2 f_law_ln_limits) (eCons (eV 1) (eCons (eV 6) eNil)))) (seqM (iteM (tOr (notT (truT (callE (runN 2 f_law_same) (eCons (kwE 1 1 [0, 1] f_region (eCons (eV 1) eNil) (eCons (eV 6) eNil)) (eCons (tupE (eCons (eC (.str "polyhedron")) (eCons (eV 2) (eCons (eV 8) eNil)))) eNil))))) (tstB (cmE .NotEq (callE (runN 2 f_law_ph_keeps) (eCons (eV 8) (eCons (eV 4) eNil))) (cmE .In (eV 6) (eV 5))))) (seqM (sRt (eC (.bl false))) sNx) sNx) sNx))) sNx))))) (seqM (sRt (eC (.bl true))) sNx))) 9 := rfl
noncomputable def f_law_refused : List D → Mo D := runB (seqM (sPar 3 4 (eCons (eO subD (callE lenD (eCons (ixE (ixE (ixE (eV 1) (eC (.int 1))) (eC (.int 0))) (eC (.int 1))) eNil)) (eC (.int 1))) (eCons (lstE (lcC (asgN 5) tYes (ixE (eV 5) (eC (.int 0))) [5] (seqI (ixE (eV 1) (eC (.int 1)))))) eNil))) (seqM (sSet 6 (eO multD (tupE (eCons (tupE (eCons (eC (.int 0)) (eCons (eC (.int 1)) eNil))) eNil)) (eV 3))) (seqM (sSet 7 (callE (runN 2 f_law_pick) (eCons (eV 0) (eCons (mlsE (eCons (eC .non) (eCons (callE listD (eCons (eV 6) eNil)) (eCons (eO addD (eV 6) (tupE (eCons (tupE (eCons (eC (.int 0)) (eCons (eC (.int 1)) eNil))) eNil))) (eCons (eO multD (tupE (eCons (tupE (eCons (eC (.int 2)) (eCons (eC (.int 4)) eNil))) eNil)) (eV 3)) (eCons (eO multD (tupE (eCons (eC (.int 0)) eNil)) (eV 3)) (eCons (tupE eNil) eNil))))))) eNil)))) (seqM (sSet 8 (callE (runN 2 f_law_pick) (eCons (eV 0) (eCons (mlsE (eCons (eC .non) (eCons (eC (.str "")) (eCons (eC (.int 5)) (eCons (eC (.str "A")) (eCons (tupE (eCons (ixE (eV 4) (eC (.int 0))) eNil)) (eCons (eO multD (eC (.str "a")) (eC (.int 9))) eNil))))))) eNil)))) (seqM (iteM (notT (truT (caughtE ["BadPoint", "BadWord", "BadLines"] "BadPoint" (callE (runN 2 f_chosen) (eCons (eV 1) (eCons (eV 7) eNil)))))) (seqM (sRt (eC (.bl false))) sNx) sNx) (seqM (iteM (notT (truT (caughtE ["BadPoint", "BadWord", "BadLines"] "BadWord" (callE (runN 2 f_region) (eCons (eV 1) (eCons (eV 8) eNil)))))) (seqM (sRt (eC (.bl false))) sNx) sNx) (seqM (iteM (truT (callE (runN 1 f_law_is_lines) (eCons (eV 2) eNil))) (seqM (sRt (eC (.bl true))) sNx) sNx) (seqM (iteM (notT (truT (caughtE ["BadPoint", "BadWord", "BadLines"] "BadLines" (callE (runN 2 f_chosen) (eCons (eV 2) (eCons (eC .non) eNil)))))) (seqM (sRt (eC (.bl false))) sNx) sNx) (seqM (sRt (caughtE ["BadPoint", "BadWord", "BadLines"] "BadLines" (callE (runN 2 f_region) (eCons (eV 2) (eCons (eC .non) eNil))))) sNx))))))))) 9
theorem c_law_refused : f_law_refused = runB (seqM (sPar 3 4 (eCons (eO subD (callE lenD (eCons (ixE (ixE (ixE (eV 1) (eC (.int 1))) (eC (.int 0))) (eC (.int 1))) eNil)) (eC (.int 1))) (eCons (lstE (lcC (asgN 5) tYes (ixE (eV 5) (eC (.int 0))) [5] (seqI (ixE (eV 1) (eC (.int 1)))))) eNil))) (seqM (sSet 6 (eO multD (tupE (eCons (tupE (eCons (eC (.int 0)) (eCons (eC (.int 1)) eNil))) eNil)) (eV 3))) (seqM (sSet 7 (callE (runN 2 f_law_pick) (eCons (eV 0) (eCons (mlsE (eCons (eC .non) (eCons (callE listD (eCons (eV 6) eNil)) (eCons (eO addD (eV 6) (tupE (eCons (tupE (eCons (eC (.int 0)) (eCons (eC (.int 1)) eNil))) eNil))) (eCons (eO multD (tupE (eCons (tupE (eCons (eC (.int 2)) (eCons (eC (.int 4)) eNil))) eNil)) (eV 3)) (eCons (eO multD (tupE (eCons (eC (.int 0)) eNil)) (eV 3)) (eCons (tupE eNil) eNil))))))) eNil)))) (seqM (sSet 8 (callE (runN 2 f_law_pick) (eCons (eV 0) (eCons (mlsE (eCons (eC .non) (eCons (eC (.str "")) (eCons (eC (.int 5)) (eCons (eC (.str "A")) (eCons (tupE (eCons (ixE (eV 4) (eC (.int 0))) eNil)) (eCons (eO multD (eC (.str "a")) (eC (.int 9))) eNil))))))) eNil)))) (seqM (iteM (notT (truT (caughtE ["BadPoint", "BadWord", "BadLines"] "BadPoint" (callE (runN 2 f_chosen) (eCons (eV 1) (eCons (eV 7) eNil)))))) (seqM (sRt (eC (.bl false))) sNx) sNx) (seqM (iteM (notT (truT (caughtE ["BadPoint", "BadWord", "BadLines"] "BadWord" (callE (runN 2 f_region) (eCons (eV 1) (eCons (eV 8) eNil)))))) (seqM (sRt (eC (.bl false))) sNx) sNx) (seqM (iteM (truT (callE (runN 1 f_law_is_lines) (eCons (eV 2) eNil))) (seqM (sRt (eC (.bl true))) sNx) sNx) (seqM (iteM (notT (truT (caughtE ["BadPoint", "BadWord", "BadLines"] "BadLines" (callE (runN 2 f_chosen) (eCons (eV 2) (eCons (eC .non) eNil)))))) (seqM (sRt (eC (.bl false))) sNx) sNx) (seqM (sRt (caughtE ["BadPoint", "BadWord", "BadLines"] "BadLines" (callE (runN 2 f_region) (eCons (eV 2) (eCons (eC .non) eNil))))) sNx))))))))) 9 := rfl
end TP
end
end

-- text K1
section
set_option maxHeartbeats 4000000
set_option autoImplicit false
noncomputable section
namespace K90
open PySem PySem.Spec L2 TL TP
open PyProof.Rows hiding St
def top (i : Nat) : Stmt := PySem.Challenge.pw_taughtloss_k90_lines_and_what_they_choos.main.body.getD i (.Pass ⟨0, 0, 0, 0⟩)
def kvT (t : Drw) : List (Key × V) := [(.inr "great", .ref t.ag), (.inr "cells", .ref t.ac), (.inr "rest", .int t.rest), (.inr "turn", .int t.turn)]
abbrev scB : Scope := defScope (top 40)
abbrev NB : List Str := ["state", "turn", "found", "prime", "blend", "cell"]
theorem scopeB : FnScope NB ["state"] scB := ⟨rfl, rfl, rfl, by decide +kernel, rfl, by decide +kernel, by decide +kernel⟩
section
variable {W : Wd} {P : Program} {w : World} {K : PySem.W.Frag} {mg : Str → Option Value} {base : Heap} {k : Nat}
theorem walk_list {a : Addr} {xs : List V} {gt : TG} {tb : TS} {D' : Ends} {σ : St} {H1 : Hp} (I : Nat → St → Hp → Prop) (h0 : I 0 σ H1) (hl : ∀ i σ H, I i σ H → SqL K H a xs)
    (hs : ∀ i x σ H, xs[i]? = some x → I i σ H → gt x σ H fun σ2 H2 => tb { D' with nx := I (i + 1), ct := I (i + 1), bk := D'.nx } σ2 H2) (hd : ∀ σ H, I xs.length σ H → D'.nx σ H) :
    ∃ Z : Nat → Nat → St → Hp → Prop, (∃ m, Z 0 m σ H1) ∧ ∀ i m σ H, Z i m σ H →
      ((Itl K a).stop i H ∧ D'.nx σ H) ∨ ((Itl K a).go i H ∧ ∃ N : St → Hp → Prop, (∀ σ' H', N σ' H' → ∃ m', m' < m ∧ Z (i + 1) m' σ' H') ∧ ∀ x H', (Itl K a).yld i H x H' → gt x σ H' fun σ2 H2 => tb { D' with nx := N, ct := N, bk := D'.nx } σ2 H2) := by
  refine ⟨fun i m σ H => m = xs.length - i ∧ i ≤ xs.length ∧ I i σ H, ⟨xs.length, by simp, Nat.zero_le _, h0⟩, ?_⟩
  rintro i m σ H ⟨rfl, hi, p⟩
  have q := hl i σ H p
  by_cases c : i < xs.length
  · have e : xs[i]? = some xs[i] := List.getElem?_eq_getElem c
    refine .inr ⟨⟨xs, xs[i], q, e⟩, I (i + 1), fun σ' H' p' => ⟨xs.length - (i + 1), by omega, rfl, c, p'⟩, fun x H' hy => ?_⟩
    obtain ⟨rfl, hy⟩ := hy
    exact hs i x σ H' (hy xs q) p
  · have e : i = xs.length := by omega
    subst e
    exact .inl ⟨⟨xs, q, Nat.le_refl _⟩, hd σ H p⟩
theorem kvT_get {t : Drw} {H : Hp} (h : H t.a = some (.dK (kvT t))) : DGet H t.a (.str "great") (some (.ref t.ag)) ∧ DGet H t.a (.str "cells") (some (.ref t.ac)) ∧ DGet H t.a (.str "rest") (some (.int t.rest)) ∧ DGet H t.a (.str "turn") (some (.int t.turn)) :=
  ⟨DGet.k (k := .inr "great") h, DGet.k (k := .inr "cells") h, DGet.k (k := .inr "rest") h, DGet.k (k := .inr "turn") h⟩
theorem kvT_put {t : Drw} {H : Hp} {i : Int} (h : H t.a = some (.dK (kvT t))) : DPut H t.a (.str "turn") (.int i) (upd H t.a (.dK (kvT { t with turn := i }))) ∧ DPut H t.a (.str "rest") (.int i) (upd H t.a (.dK (kvT { t with rest := i }))) :=
  ⟨DPut.k (k := .inr "turn") (v := .int i) h (by show 4 < sizeLine; decide), DPut.k (k := .inr "rest") (v := .int i) h (by show 4 < sizeLine; decide)⟩
/-- what the dict at t.a becomes -/
theorem ext_turn {F : Fz} {t : Drw} {H H' : Hp} {i j : Int} (wf : Wf W F (some t) H) (e : H' = upd H t.a (.dK (kvT { t with rest := i, turn := j }))) : Ext W F (some t) H F (some { t with rest := i, turn := j }) H' := by
  obtain ⟨h1, h2, h3, h4⟩ := wf.ok
  have ma : Mg (some t) t.a := ⟨t, rfl, .inl rfl⟩
  have n1 : t.ag ≠ t.a := fun q => by rw [q, h1] at h2; cases h2
  have n2 : t.ac ≠ t.a := fun q => by rw [q, h1] at h3; cases h3
  subst e
  have mm : ∀ b, Mg (some { t with rest := i, turn := j }) b → Mg (some t) b := fun b ⟨t', e, m⟩ => by cases e; exact ⟨t, rfl, m⟩
  refine ⟨fun b o h n _ => ?_, fun _ h => h, fun _ h => .inl h, fun b m => .inl (mm b m), fun b o h => ?_, ⟨fun b f => ?_, fun b f m => wf.nm b f (mm b m), ⟨by rw [upd_same] <;> rfl, by rw [upd_ne n1]; exact h2, by rw [upd_ne n2]; exact h3, h4⟩, fun p hp => ?_⟩⟩
  · rw [upd_ne (fun q => n (by rw [q]; exact ma))]; exact h
  · by_cases q : b = t.a
    · exact ⟨_, by rw [q, upd_same]⟩
    · exact ⟨o, by rw [upd_ne q]; exact h⟩
  · obtain ⟨o, h⟩ := wf.al b f
    exact ⟨o, by rw [upd_ne (fun q => wf.nm b f (by rw [q]; exact ma))]; exact h⟩
  · obtain ⟨ps, g1, g2, g3⟩ := wf.tb p hp
    refine ⟨ps, by rw [upd_ne (fun q => by rw [q, h1] at g1; cases g1)]; exact g1, g2, fun pos cv hc => ?_⟩
    obtain ⟨c, e1, e2⟩ := g3 pos cv hc
    exact ⟨c, e1, by rw [upd_ne (fun q => by rw [q, h1] at e2; unfold LamX.CodeO at e2; cases e2)]; exact e2⟩
theorem hashC_take (p turn : Int) : ∀ (cs : List Int) (i : Nat) (b c : Int), cs[i]? = some c → hashC p turn (cs.take (i + 1)) b = (hashC p turn (cs.take i) b * 69621 + c + turn) % p
  | [], i, b, c, h => by simp at h
  | x :: cs, 0, b, c, h => by
    simp at h
    subst h
    simp [hashC]
  | x :: cs, i + 1, b, c, h => by
    have h : cs[i]? = some c := by simpa using h
    rw [List.take_succ_cons, List.take_succ_cons]
    exact hashC_take p turn cs i _ c h
/-- how big a hash may be -/
theorem hashC_small {p turn : Int} (hp : 0 < p) (hp2 : p < 2 ^ 31) : ∀ {cs : List Int} {b : Int}, (cs = [] ∧ hashC p turn cs b = b) ∨ (cs ≠ [] ∧ 0 ≤ hashC p turn cs b ∧ hashC p turn cs b < p)
  | [], b => .inl ⟨rfl, rfl⟩
  | x :: cs, b => .inr ⟨fun z => (by cases z), by
    have e : hashC p turn (x :: cs) b = hashC p turn cs ((b * 69621 + x + turn) % p) := rfl
    rw [e]
    rcases hashC_small (turn := turn) hp hp2 (cs := cs) (b := (b * 69621 + x + turn) % p) with ⟨_, e2⟩ | ⟨_, e2⟩
    · rw [e2]
      exact ⟨Int.emod_nonneg _ (by omega), Int.emod_lt_of_pos _ hp⟩
    · exact e2⟩
theorem hashC_bits {p turn : Int} {cs : List Int} (hp : 0 < p) (hp2 : p < 2 ^ 31) (h0 : 0 ≤ turn) (h1 : turn ≤ 2 ^ 200) : (hashC p turn cs (48271 * turn + p / 53)).natAbs < 2 ^ 230 := by
  have h3 : (0 : Int) ≤ p / 53 := Int.ediv_nonneg (by omega) (by decide)
  have h4 : p / 53 ≤ p := Int.ediv_le_self _ (by omega)
  rcases hashC_small (turn := turn) hp hp2 (cs := cs) (b := 48271 * turn + p / 53) with ⟨_, e⟩ | ⟨_, e, e'⟩
  · rw [e]; omega
  · omega
theorem bits_le {i : Int} {n : Nat} (h : i.natAbs < 2 ^ n) : Builtin.Int.intBits i ≤ n := PyProof.Rows.intBits_le h
theorem mul_ok {i j : Int} (h1 : i.natAbs < 2 ^ 1000) (h2 : j.natAbs < 2 ^ 1000) : CMulW i j := wide_mul (a := 1000) (b := 1000) h1 h2 (by decide) (by decide) (by decide)
theorem step_small (turn : Int) (cells : List Int) {f p : Int} (hp : 0 < p) (hp2 : p < 2 ^ 31) (h : 0 ≤ f) : 0 ≤ step1 turn cells f p ∧ step1 turn cells f p < f * 2147483647 + 2 ^ 31 := by
  unfold step1
  have h1 := Int.emod_nonneg (hash1 turn cells p ^ 5) (show p ≠ 0 by omega)
  have h2 := Int.emod_lt_of_pos (hash1 turn cells p ^ 5) hp
  omega
theorem fold_small (turn : Int) (cells : List Int) (i : Nat) : ((primes.take i).foldl (step1 turn cells) 0).natAbs < 2 ^ 100 := by
  have a1 := step_small turn cells (f := 0) (p := 2147483579) (by decide) (by decide) (by decide)
  have a2 := step_small turn cells (p := 2147483629) (by decide) (by decide) a1.1
  have a3 := step_small turn cells (p := 2147483563) (by decide) (by decide) a2.1
  match i with
  | 0 => show Int.natAbs 0 < 2 ^ 100; decide
  | 1 => show (step1 turn cells 0 2147483579).natAbs < 2 ^ 100; omega
  | 2 => show (step1 turn cells (step1 turn cells 0 2147483579) 2147483629).natAbs < 2 ^ 100; omega
  | i + 3 =>
    rw [List.take_of_length_le (by show 3 ≤ i + 3; omega)]
    show (step1 turn cells (step1 turn cells (step1 turn cells 0 2147483579) 2147483629) 2147483563).natAbs < 2 ^ 100; omega
abbrev bodyB : List Stmt := defBody (top 40)
theorem ok_blended {f : Addr} {fd : FuncData} {dvs : List V} {kws : List (Str × V)} (Fd : FunD K "_law_blended" "_law_blended" (defArgs (top 40)) bodyB scB dvs kws f fd) (hK : K = W.K) (mi : mg "int" = none) :
    FnOk P w K mg base (L2.CX P w) (k + 1) f fd ["state"] (spD W 1 blendF) := by
  refine Fd.ok scopeB (fun vs H Q E h => ?_) (fun cdv A outer s H vs Q E hr h => ?_)
  · obtain ⟨F, g, ds, _, r, hl, _⟩ := h
    rw [r.length, hl] <;> rfl
  · obtain ⟨F, g, ds, wf, r, hl, p⟩ := h
    unfold blendF at p
    split at p
    · rename_i a t
      split at p
      · rename_i c
        obtain ⟨rfl, c⟩ := c
        cases r with
        | cons ra rn =>
          cases rn
          cases ra
          have hu : (cxOf (L2.CX P w) P w K mg base NB "_law_blended" scB f cdv A outer s H E).A.units + 1 < cLine := by
            have := hr.un
            show (A.deeper _).units + 1 < cLine
            omega
          refine ⟨_, pss_cons (ps_par (i := 1) (j := 2) rfl scopeB.nd rfl rfl (by decide) rfl rfl (pa_cons (pe_op op_add (pe_dget hu (pv 0) pe_str (fun _ _ => rfl)) pe_int) (pa_cons pe_int pa_nil)) rfl)
            (pss_cons (ps_dput hu (pv 0) pe_str (pv 1) rfl)
            (pss_cons (ps_for (passes_of rfl) rfl (pi_seq (pe_lst (pa_cons pe_int (pa_cons pe_int (pa_cons pe_int pa_nil))))) (pg_name (i := 3) scopeB.nd rfl (Or.inl rfl) (Or.inl rfl))
              (pss_cons (ps_set (i := 4) scopeB.nd rfl (Or.inl rfl) (pe_op op_add (pe_op op_mulW pe_int (pv 1)) (pe_op op_fdivW (pv 3) pe_int)) rfl (Or.inl rfl))
              (pss_cons (ps_for (passes_of rfl) rfl (pi_seq (pe_dget hu (pv 0) pe_str (fun _ _ => rfl))) (pg_name (i := 5) scopeB.nd rfl (Or.inl rfl) (Or.inl rfl))
                (pss_one (ps_set (i := 4) scopeB.nd rfl (Or.inl rfl) (pe_op op_mod (pe_callTy call_int1 rfl mi (by decide +kernel) (pa_cons (pe_op op_add (pe_op op_add (pe_op op_mulW (pv 4) pe_int) (pv 5)) (pv 1)) pa_nil)) (pv 3)) rfl (Or.inl rfl))))
              (pss_one (ps_set (i := 2) scopeB.nd rfl (Or.inl rfl) (pe_op op_add (pe_op op_mulW (pv 2) pe_int) (pe_op op_mod (pe_callTy call_int1 rfl mi (by decide +kernel) (pa_cons (pe_op op_powW (pv 4) pe_int) pa_nil)) (pv 3))) rfl (Or.inl rfl))))))
            (pss_one (ps_ret (pv 2))))), ?_⟩
          simp only [okT, Bool.and_eq_true, decide_eq_true_eq] at c
          obtain ⟨⟨⟨c1, c2⟩, c3⟩, c4⟩ := c
          obtain ⟨o1, o2, o3, o4⟩ := wf.ok
          have hA : H t.a = some (.dK (kvT t)) := o1
          have x1 : Ext W F (some t) H F (some (nextT t)) (upd H t.a (.dK (kvT (nextT t)))) := ext_turn wf rfl
          have u1 : (0 : Int) ≤ t.turn + 1 := by omega
          have u2 : t.turn + 1 ≤ 2 ^ 200 := by omega
          refine ⟨.ref t.a, rfl, t.a, .int t.turn, rfl, (kvT_get hA).2.2.2, t.turn, 1, rfl, rfl, _, _, rfl, .int (t.turn + 1), rfl, .ref t.a, rfl, t.a, _, rfl, (kvT_put hA).1, by show 3 ≤ sizeLine; decide, fun q hq => .inl ⟨q, rfl, .inl ⟨⟨_, .inl (.inl upd_same)⟩, ?_⟩⟩⟩
          have x2 : Ext W F (some t) H F (some (nextT t)) (upd (upd H t.a (.dK (kvT (nextT t)))) q (.lst (primes.map V.int))) := x1.trans (Ext.newT x1.wf hq)
          obtain ⟨q1, q2, q3, q4⟩ := x2.wf.ok
          refine walk_list (xs := primes.map V.int) (fun i σ H' => H' = upd (upd H t.a (.dK (kvT (nextT t)))) q (.lst (primes.map V.int)) ∧ ∃ y3 y4 y5, σ = [some (.ref t.a), some (.int (t.turn + 1)), some (.int ((primes.take i).foldl (step1 (t.turn + 1) t.cells) 0)), y3, y4, y5]) ⟨rfl, none, none, none, rfl⟩ (fun i σ H' z => ?_) (fun i x σ H' hx z => ?_) (fun σ H' z => ?_)
          · rw [z.1]
            exact .inl (.inl upd_same)
          · obtain ⟨rfl, y3, y4, y5, rfl⟩ := z
            rw [List.getElem?_map] at hx
            obtain ⟨pr, e1, rfl⟩ := Option.map_eq_some_iff.mp hx
            have pp : 0 < pr ∧ pr < 2 ^ 31 := by
              have := List.mem_of_getElem? e1
              simp only [primes, List.mem_cons, List.not_mem_nil, or_false] at this
              omega
            refine ⟨.int (t.turn + 1), rfl, 48271, t.turn + 1, rfl, rfl, mul_ok (by decide) (by omega), .int pr, rfl, pr, 53, rfl, rfl, ⟨by decide, by decide⟩, _, _, rfl, rfl, ?_⟩
            refine ⟨.ref t.a, rfl, t.a, .ref t.ac, rfl, (kvT_get (t := nextT t) q1).2.1, .inl ⟨t.ac, rfl, .inl ⟨⟨_, .inl (.inl q3)⟩, ?_⟩⟩⟩
            refine walk_list (xs := t.cells.map V.int) (fun i' σ H' => H' = upd (upd H t.a (.dK (kvT (nextT t)))) q (.lst (primes.map V.int)) ∧ ∃ y5, σ = [some (.ref t.a), some (.int (t.turn + 1)), some (.int ((primes.take i).foldl (step1 (t.turn + 1) t.cells) 0)), some (.int pr), some (.int (hashC pr (t.turn + 1) (t.cells.take i') (48271 * (t.turn + 1) + pr / 53))), y5]) ⟨rfl, _, rfl⟩ (fun i' σ H' z => ?_) (fun i' x σ H' hx z => ?_) (fun σ H' z => ?_)
            · rw [z.1]
              exact .inl (.inl q3)
            · obtain ⟨rfl, y5, rfl⟩ := z
              rw [List.getElem?_map] at hx
              obtain ⟨ce, e2, rfl⟩ := Option.map_eq_some_iff.mp hx
              have bb := hashC_bits (cs := t.cells.take i') pp.1 pp.2 u1 u2
              refine ⟨.int _, rfl, _, 69621, rfl, rfl, mul_ok (Nat.lt_of_lt_of_le bb (by decide)) (by decide), .int ce, rfl, _, ce, rfl, rfl, .int (t.turn + 1), rfl, _, t.turn + 1, rfl, rfl, .inl ⟨_, rfl, .int pr, rfl, _, pr, rfl, rfl, pp.1, rfl, some (.int ce), ?_⟩⟩
              rw [hashC_take pr (t.turn + 1) t.cells i' _ ce e2] <;> rfl
            · obtain ⟨rfl, y5, rfl⟩ := z
              have bb := hashC_bits (cs := t.cells) pp.1 pp.2 u1 u2
              rw [List.length_map, List.take_length]
              have fb : ((primes.take i).foldl (step1 (t.turn + 1) t.cells) 0).natAbs < 2 ^ 1000 := Nat.lt_of_lt_of_le (fold_small (t.turn + 1) t.cells i) (by decide)
              refine ⟨.int _, rfl, _, 2147483647, rfl, rfl, mul_ok fb (by decide), .int _, rfl, _, 5, rfl, rfl, ?_, .inl ⟨_, rfl, .int pr, rfl, _, pr, rfl, rfl, pp.1, _, _, rfl, rfl, rfl, some (.int pr), some (.int (hashC pr (t.turn + 1) t.cells (48271 * (t.turn + 1) + pr / 53))), y5, ?_⟩⟩
              · have b2 := bits_le bb
                show powOk _ 5 = true
                unfold powOk
                rw [Bool.and_eq_true]
                exact ⟨rfl, decide_eq_true (by omega)⟩
              · have e3 : primes.take (i + 1) = primes.take i ++ [pr] := by rw [List.take_add_one, e1] <;> rfl
                rw [e3, List.foldl_append]
                rfl
          · obtain ⟨rfl, y3, y4, y5, rfl⟩ := z
            exact ⟨.int _, rfl, p F _ x2 _ (.int _)⟩
      · exact p.elim
    · exact p.elim
end
end K90
end
end

-- text K2
section
set_option maxHeartbeats 4000000
set_option autoImplicit false
noncomputable section
namespace K90
open PySem PySem.Spec L2 TL TP
open PyProof.Rows hiding St
section
variable {W : Wd} {P : Program} {w : World} {K : PySem.W.Frag} {mg : Str → Option Value} {base : Heap} {k : Nat}
theorem ext_great {F : Fz} {t : Drw} {H H' : Hp} {r : List Int} (wf : Wf W F (some t) H) (e : H' = upd H t.ag (.lst (r.map V.int))) : Ext W F (some t) H F (some { t with great := r }) H' := by
  obtain ⟨h1, h2, h3, h4⟩ := wf.ok
  have ma : Mg (some t) t.ag := ⟨t, rfl, .inr (.inl rfl)⟩
  have n1 : t.a ≠ t.ag := fun q => by rw [q, h2] at h1; cases h1
  have n2 : t.ac ≠ t.ag := fun q => h4 q.symm
  subst e
  have mm : ∀ b, Mg (some { t with great := r }) b → Mg (some t) b := fun b ⟨t', e, m⟩ => by cases e; exact ⟨t, rfl, m⟩
  refine ⟨fun b o h n _ => ?_, fun _ h => h, fun _ h => .inl h, fun b m => .inl (mm b m), fun b o h => ?_, ⟨fun b f => ?_, fun b f m => wf.nm b f (mm b m), ⟨by rw [upd_ne n1]; exact h1, by rw [upd_same], by rw [upd_ne n2]; exact h3, h4⟩, fun p hp => ?_⟩⟩
  · rw [upd_ne (fun q => n (by rw [q]; exact ma))]; exact h
  · by_cases q : b = t.ag
    · exact ⟨_, by rw [q, upd_same]⟩
    · exact ⟨o, by rw [upd_ne q]; exact h⟩
  · obtain ⟨o, h⟩ := wf.al b f
    exact ⟨o, by rw [upd_ne (fun q => wf.nm b f (by rw [q]; exact ma))]; exact h⟩
  · obtain ⟨ps, g1, g2, g3⟩ := wf.tb p hp
    refine ⟨ps, by rw [upd_ne (fun q => by rw [q, h2] at g1; cases g1)]; exact g1, g2, fun pos cv hc => ?_⟩
    obtain ⟨c, e1, e2⟩ := g3 pos cv hc
    exact ⟨c, e1, by rw [upd_ne (fun q => by rw [q, h2] at e2; unfold LamX.CodeO at e2; cases e2)]; exact e2⟩
abbrev scD : Scope := defScope (top 41)
abbrev ND : List Str := ["state", "room", "found"]
theorem scopeD : FnScope ND ["state", "room"] scD := ⟨rfl, rfl, rfl, by decide +kernel, rfl, by decide +kernel, by decide +kernel⟩
theorem ok_draw {f fb : Addr} {fd fdb : FuncData} {dvs : List V} {kws : List (Str × V)} (Fd : FunD K "_law_draw" "_law_draw" (defArgs (top 41)) (defBody (top 41)) scD dvs kws f fd) (hK : K = W.K) (mi : mg "int" = none)
    (Fb : FnOk P w K mg base (L2.CX P w) k fb fdb ["state"] (spD W 1 blendF)) (mb : mg "_law_blended" = some (.ref fb)) (kb : PySem.W.keepIn K (.ref fb) = true) (bb : Binds K fdb ["state"] []) :
    FnOk P w K mg base (L2.CX P w) (k + 1) f fd ["state", "room"] (spD W 2 drawF) := by
  refine Fd.ok scopeD (fun vs H Q E h => ?_) (fun cdv A outer s H vs Q E hr h => ?_)
  · obtain ⟨F, g, ds, _, r, hl, _⟩ := h
    rw [r.length, hl] <;> rfl
  · obtain ⟨F, g, ds, wf, r, hl, p⟩ := h
    unfold drawF at p
    split at p
    · rename_i a room t
      split at p
      · rename_i c
        obtain ⟨rfl, c, r0, r1⟩ := c
        cases r with
        | cons ra rn =>
          cases rn with
          | cons rb rn =>
          cases rn
          cases ra
          cases rb
          have hu : (cxOf (L2.CX P w) P w K mg base ND "_law_draw" scD f cdv A outer s H E).A.units + 64 < cLine := by
            have := hr.un
            show (A.deeper _).units + 64 < cLine
            omega
          have tk : Takes (cxOf (L2.CX P w) P w K mg base ND "_law_draw" scD f cdv A outer s H E) (fun cls d _ H => E cls d H) := takes_of rfl rfl rfl rfl
          have hx : Passes (L2.CX P w) (cxOf (L2.CX P w) P w K mg base ND "_law_draw" scD f cdv A outer s H E) E := passes_call tk fun _ _ _ _ h => h
          refine ⟨_, pss_cons (ps_if (pt_cmpR op_eq (pe_dget (by omega) (pv 0) pe_str (fun _ _ => rfl)) pe_int (nomark _))
              (pss_one (ps_dput (by omega) (pv 0) pe_str (pe_ifExp (pt_cmpR (op_neD hu) (pe_dget (by omega) (pv 0) pe_str (fun _ _ => rfl)) (pe_lst pa_nil) (nomark _))
                (pe_bm PySem.F.plainAttrs_list PySem.F.slot_list_pop PySem.F.type_list_pop (show MtR _ "list.pop" rPopAt from mt_popAt) (pe_dget (by omega) (pv 0) pe_str (fun _ _ => rfl)) (pa_cons pe_int pa_nil))
                (pe_call Fb hr rfl mb kb bb .nil hx (pa_cons (pv 0) pa_nil))) rfl)) pss_nil)
            (pss_cons (ps_set (i := 2) scopeD.nd rfl (Or.inl rfl) (pe_op op_mod (pe_callTy call_int1 rfl mi (by decide +kernel) (pa_cons (pe_dget (by omega) (pv 0) pe_str (fun _ _ => rfl)) pa_nil)) (pv 1)) rfl (Or.inl rfl))
            (pss_cons (ps_dput (by omega) (pv 0) pe_str (pe_op op_fdivW (pe_dget (by omega) (pv 0) pe_str (fun _ _ => rfl)) (pv 1)) rfl)
            (pss_one (ps_ret (pv 2))))), ?_⟩
          simp only [okT, Bool.and_eq_true, decide_eq_true_eq] at c
          obtain ⟨⟨⟨c1, c2⟩, c3⟩, c4⟩ := c
          have rlog : room.natAbs.log2 < 9000 := Nat.lt_trans (PySem.Flt.log2_lt_of (k := 60) (by decide) (by unfold Sml at *; omega)) (by decide)
          have tail : ∀ F1 t1 H1, Ext W F (some t) H F1 (some t1) H1 → t1 = loaded t →
              tSeq (tAsg (tOp (rI (fun _ j => 0 < j) fun i j => .int (i % j)) (tCB (fun xs H Q => (∃ i, xs = [.int i] ∧ Q (.int i) H) ∨ ∃ k, xs = [.bl k] ∧ Q (.int (if k then 1 else 0)) H) (tCons (tDGet (tVar 0) (tC (.str "rest"))) tNil)) (tVar 1)) (gName 2))
                (tSeq (sDPut (tVar 0) (tC (.str "rest")) (tOp (rI CDivW fun i j => .int (i / j)) (tDGet (tVar 0) (tC (.str "rest"))) (tVar 1))) (tRet (tVar 2)))
                { nx := fun _ H' => Q .non H', rt := Q } [some (.ref t.a), some (.int room), none] H1 := by
            intro F1 t1 H1 x et
            have ea : t1.a = t.a := by
              rw [et]
              unfold loaded
              split
              · split <;> rfl
              · rfl
            have hA : H1 t1.a = some (.dK (kvT t1)) := x.wf.ok.1
            rw [ea] at hA
            have gr : DGet H1 t.a (.str "rest") (some (.int t1.rest)) := DGet.k (k := .inr "rest") hA
            have pr : DPut H1 t.a (.str "rest") (.int (t1.rest / room)) (upd H1 t.a (.dK (kvT { t1 with rest := t1.rest / room }))) := DPut.k (k := .inr "rest") (v := .int (t1.rest / room)) hA (by show 4 < sizeLine; decide)
            refine ⟨.ref t.a, rfl, t.a, _, rfl, gr, .inl ⟨_, rfl, .int room, rfl, _, room, rfl, rfl, r0, ?_⟩⟩
            refine ⟨.ref t.a, rfl, t.a, _, rfl, gr, .int room, rfl, _, room, rfl, rfl, ⟨r0, rlog⟩, .ref t.a, rfl, t.a, _, rfl, pr, ?_⟩
            have x2 : Ext W F1 (some t1) H1 F1 (some { t1 with rest := t1.rest / room }) (upd H1 t.a (.dK (kvT { t1 with rest := t1.rest / room }))) := ext_turn x.wf (by rw [ea])
            have p2 : ∀ F' H', Ext W F (some t) H F' (some (drawnT room t)) H' → PQ W Q (.int ((loaded t).rest % room)) F' (some (drawnT room t)) H' := p
            have e : drawnT room t = { t1 with rest := t1.rest / room } := by rw [et]; rfl
            rw [e, ← et] at p2
            exact ⟨.int (t1.rest % room), rfl, p2 F1 _ (x.trans x2) _ (.int _)⟩
          have hA : H t.a = some (.dK (kvT t)) := wf.ok.1
          have gR : DGet H t.a (.str "rest") (some (.int t.rest)) := DGet.k (k := .inr "rest") hA
          refine ⟨.ref t.a, rfl, t.a, _, rfl, gR, rfl, _, rfl, ?_⟩
          by_cases z : t.rest = 0
          · show if decide (V.int t.rest = V.int 0) = true then _ else _
            rw [if_pos (decide_eq_true (by rw [z]))]
            refine ⟨.ref t.a, rfl, t.a, _, rfl, (kvT_get hA).1, by show 0 ≤ sizeLine; decide, fun q hq => ?_⟩
            have xn : Ext W F (some t) H F (some t) (upd H q (.lst [])) := Ext.newT wf hq
            obtain ⟨o1, o2, o3, o4⟩ := xn.wf.ok
            have d1 : Dp K (upd H q (.lst [])) (.ref t.ag) (.list (t.great.map PyData.int)) := by
              rw [hK]
              exact Rep.dp (W := W) (F := fun _ => True) (d := .lst (t.great.map D.int)) (.lst trivial o2 (by rw [List.length_map]; exact Nat.le_trans c1 (by decide)) (RepL.of_ints _)) (by show (toPyL _).map _ = _; rw [toPy_ints] <;> rfl)
            have d2 : Dp K (upd H q (.lst [])) (.ref q) (.list []) := by
              rw [hK]
              exact Rep.dp (W := W) (F := fun _ => True) (d := .lst []) (.lst trivial upd_same (by decide) .nil) rfl
            refine ⟨_, _, d1, d2, ints_shaped _, rfl, _, rfl, ?_⟩
            rw [ints_nil]
            cases hg : t.great with
            | cons y ys =>
              show (if (!false) = true then _ else _)
              rw [if_pos (show (!false) = true from rfl)]
              rw [hg] at o2
              have dg2 := (kvT_get (t := t) o1).1
              refine ⟨.ref t.a, rfl, t.a, _, rfl, dg2, .inl ⟨rfl, _, .inl (.inl o2)⟩, t.ag, _, 0, 0, .int y, rfl, rfl, o2, by decide, by decide, by simp [seqIndex?], rfl, ?_⟩
              have x1 : Ext W F (some t) (upd H q (.lst [])) F (some { t with great := ys }) (upd (upd H q (.lst [])) t.ag (.lst (ys.map V.int))) := ext_great xn.wf rfl
              obtain ⟨w1, w2, w3, w4⟩ := x1.wf.ok
              have x2 : Ext W F (some { t with great := ys }) (upd (upd H q (.lst [])) t.ag (.lst (ys.map V.int))) F (some { t with great := ys, rest := y }) (upd (upd (upd H q (.lst [])) t.ag (.lst (ys.map V.int))) t.a (.dK (kvT { t with great := ys, rest := y }))) := ext_turn (i := y) (j := t.turn) x1.wf rfl
              refine ⟨.ref t.a, rfl, t.a, _, rfl, DPut.k (kvs := kvT { t with great := ys }) (k := .inr "rest") (v := .int y) w1 (by show 4 < sizeLine; decide), tail F _ _ ((xn.trans x1).trans x2) ?_⟩
              unfold loaded
              rw [if_pos z, hg]
            | nil =>
              show (if (!true) = true then _ else _)
              rw [if_neg (by decide)]
              refine ⟨.ref t.a, rfl, ?_⟩
              show spD W 1 blendF [.ref t.a] _ _ _
              refine ⟨F, some t, [.ptr t.a], xn.wf, .cons (.ptr _) .nil, rfl, ?_⟩
              have eb : blendF [.ptr t.a] (some t) = .ok (.int (blendV (t.turn + 1) t.cells)) (some (nextT t)) := by
                unfold blendF
                exact if_pos ⟨rfl, by simp only [okT, Bool.and_eq_true, decide_eq_true_eq]; exact ⟨⟨⟨c1, c2⟩, c3⟩, c4⟩⟩
              rw [eb]
              intro F' H' x v' rv
              cases rv
              obtain ⟨w1, w2, w3, w4⟩ := x.wf.ok
              have x2 : Ext W F' (some (nextT t)) H' F' (some { nextT t with rest := blendV (t.turn + 1) t.cells }) (upd H' t.a (.dK (kvT { nextT t with rest := blendV (t.turn + 1) t.cells }))) := ext_turn (i := blendV (t.turn + 1) t.cells) (j := t.turn + 1) x.wf rfl
              refine ⟨.ref t.a, rfl, t.a, _, rfl, DPut.k (kvs := kvT (nextT t)) (k := .inr "rest") (v := .int (blendV (t.turn + 1) t.cells)) w1 (by show 4 < sizeLine; decide), tail F' _ _ ((xn.trans x).trans x2) ?_⟩
              unfold loaded
              rw [if_pos z, hg]
          · show if decide (V.int t.rest = V.int 0) = true then _ else _
            rw [if_neg (by rw [decide_eq_true_eq]; exact fun e => z (V.int.inj e))]
            exact tail F t H (Ext.refl wf) (by unfold loaded; rw [if_neg z])
      · exact p.elim
    · exact p.elim
end
end K90
end
end

-- text K3
section
set_option maxHeartbeats 4000000
set_option autoImplicit false
noncomputable section
namespace K90
open PySem PySem.Spec L2 TL TP
open PyProof.Rows hiding St
noncomputable def mk (gt : Gt) (N : List Str) (i : Nat) (h : List (Nat × Nat)) : List D → Mo D := runB (blS gt (cmp gt hkN 24) ⟨N, defScope (top i), none, h, false⟩ 6 (defBody (top i))) N.length
abbrev vals1 : List (Str × D) := [("ZERO", .tup [.int 0, .int 1]), ("MOST", .int 200), ("LETTERS", .str "abcdefghijklmnopqrstuvwxyz"), ("MOST_LINES", .int 6), ("MOST_PLACES", .int 3)]
abbrev exc0 : List Str := ["BadPoint", "BadWord", "BadLines"]
abbrev free0 : List Str := ["isinstance", "int", "bool", "tuple", "str", "list", "dict", "len", "all", "any", "abs", "min", "range", "zip", "sorted"]
def G (fns : List (Str × FnE)) : Gt := { fns := fns, vals := vals1, excs := exc0, free := free0, blts := [("gcd", "math.gcd")] }
def GL (k0 : Nat) (fns : List (Str × FnE)) : Gt := { G fns with ax := CgF (G fns) k0 "_law_caught" exc0 }
noncomputable def mkL (k0 : Nat) (fns : List (Str × FnE)) (N : List Str) (i : Nat) (h : List (Nat × Nat)) : List D → Mo D := runB (blS (GL k0 fns) (cmp (GL k0 fns) (hkC (G fns) 24 "_law_caught" exc0) 24) ⟨N, defScope (top i), none, h, true⟩ 6 (defBody (top i))) N.length
theorem e_is_whole : mk (G []) ["value"] 8 [] = f_is_whole := by kernel_rfl
theorem e_is_ratio : mk (G [("is_whole", ⟨1, f_is_whole, []⟩)]) ["value", "part"] 9 [] = f_is_ratio := by kernel_rfl
theorem e_lowest : mk (G []) ["n", "d", "common"] 10 [] = f_lowest := by kernel_rfl
theorem e_plus : mk (G [("lowest", ⟨2, f_lowest, []⟩)]) ["one", "other"] 11 [] = f_plus := by kernel_rfl
theorem e_minus : mk (G [("lowest", ⟨2, f_lowest, []⟩)]) ["one", "other"] 12 [] = f_minus := by kernel_rfl
theorem e_times : mk (G [("lowest", ⟨2, f_lowest, []⟩)]) ["one", "other"] 13 [] = f_times := by kernel_rfl
theorem e_is_less : mk (G []) ["one", "other"] 14 [] = f_is_less := by kernel_rfl
theorem e_total : mk (G [("plus", ⟨2, f_plus, []⟩)]) ["ratios", "found", "each"] 15 [] = f_total := by kernel_rfl
theorem e_greatest_of : mk (G [("is_less", ⟨2, f_is_less, []⟩)]) ["ratios", "found", "each"] 16 [] = f_greatest_of := by kernel_rfl
theorem e_is_vector : mk (G [("is_ratio", ⟨1, f_is_ratio, []⟩)]) ["value", "part"] 19 [] = f_is_vector := by kernel_rfl
theorem e_dot : mk (G [("total", ⟨1, f_total, []⟩), ("times", ⟨2, f_times, []⟩)]) ["one", "other", "left", "right"] 20 [] = f_dot := by kernel_rfl
theorem e_apart : mk (G [("minus", ⟨2, f_minus, []⟩)]) ["one", "other", "left", "right"] 21 [] = f_apart := by kernel_rfl
theorem e_is_word : mk (G []) ["value", "letter"] 24 [] = f_is_word := by kernel_rfl
theorem e_is_line : mk (G [("is_word", ⟨1, f_is_word, []⟩), ("is_vector", ⟨1, f_is_vector, []⟩)]) ["value"] 28 [] = f_is_line := by kernel_rfl
theorem e_is_lines : mk (G [("is_line", ⟨1, f_is_line, []⟩)]) ["value", "rows", "row", "at"] 29 [] = f_is_lines := by kernel_rfl
theorem e_need_lines : mk (G [("is_lines", ⟨1, f_is_lines, [(0, ["value"], [0])]⟩)]) ["value"] 30 [] = f_need_lines := by kernel_rfl
theorem e_places_of_lines : mk (G []) ["lines"] 31 [] = f_places_of_lines := by kernel_rfl
theorem e_need_line_word : mk (G [("is_word", ⟨1, f_is_word, []⟩)]) ["lines", "word", "row"] 32 [] = f_need_line_word := by kernel_rfl
theorem e_worth_of : mk (G [("plus", ⟨2, f_plus, []⟩), ("dot", ⟨2, f_dot, []⟩)]) ["f", "point"] 33 [] = f_worth_of := by kernel_rfl
theorem e_greatest_words : mk (G [("greatest_of", ⟨1, f_greatest_of, []⟩), ("worth_of", ⟨2, f_worth_of, []⟩)]) ["lines", "point", "worths", "word", "f", "high", "row", "worth"] 34 [] = f_greatest_words := by kernel_rfl
theorem e_chosen : mk (G [("need_lines", ⟨1, f_need_lines, []⟩), ("greatest_words", ⟨2, f_greatest_words, []⟩), ("is_vector", ⟨1, f_is_vector, []⟩), ("places_of_lines", ⟨1, f_places_of_lines, []⟩)]) ["lines", "point"] 35 [] = f_chosen := by kernel_rfl
theorem e_limits_of : mk (G [("apart", ⟨2, f_apart, []⟩), ("minus", ⟨2, f_minus, []⟩)]) ["lines", "word", "own", "other", "f", "found"] 36 [(89, 2)] = f_limits_of := by kernel_rfl
theorem e_region : mk (G [("need_lines", ⟨1, f_need_lines, []⟩), ("need_line_word", ⟨2, f_need_line_word, []⟩), ("places_of_lines", ⟨1, f_places_of_lines, []⟩), ("limits_of", ⟨2, f_limits_of, []⟩)]) ["lines", "word"] 37 [] = f_region := by kernel_rfl
theorem e_law_pick : mk (G [("_law_draw", ⟨2, f_law_draw, []⟩)]) ["state", "some"] 42 [] = f_law_pick := by kernel_rfl
theorem e_law_is_truth : mk (G []) ["found", "due"] 44 [] = f_law_is_truth := by kernel_rfl
theorem e_law_same : mk (G [("_law_is_truth", ⟨2, f_law_is_truth, []⟩)]) ["found", "due", "waiting", "one", "other", "key", "alike", "left", "right"] 45 [(129, 2), (130, 1)] = f_law_same := by kernel_rfl
theorem e_law_q : mk (G []) ["n", "d", "one", "other"] 46 [] = f_law_q := by kernel_rfl
theorem e_law_plus : mk (G [("_law_q", ⟨2, f_law_q, []⟩)]) ["one", "other"] 47 [] = f_law_plus := by kernel_rfl
theorem e_law_minus : mk (G [("_law_q", ⟨2, f_law_q, []⟩)]) ["one", "other"] 48 [] = f_law_minus := by kernel_rfl
theorem e_law_times : mk (G [("_law_q", ⟨2, f_law_q, []⟩)]) ["one", "other"] 49 [] = f_law_times := by kernel_rfl
theorem e_law_over : mk (G [("_law_q", ⟨2, f_law_q, []⟩)]) ["one", "other"] 50 [] = f_law_over := by kernel_rfl
theorem e_law_less : mk (G []) ["one", "other"] 51 [] = f_law_less := by kernel_rfl
theorem e_law_sum : mk (G [("_law_plus", ⟨2, f_law_plus, []⟩)]) ["some", "found", "each"] 52 [] = f_law_sum := by kernel_rfl
theorem e_law_words : mk (G [("_law_pick", ⟨2, f_law_pick, []⟩), ("_law_draw", ⟨2, f_law_draw, []⟩)]) ["draws", "many", "found", "word", "lap"] 53 [] = f_law_words := by kernel_rfl
theorem e_law_number : mk (G [("_law_q", ⟨2, f_law_q, []⟩), ("_law_draw", ⟨2, f_law_draw, []⟩), ("_law_pick", ⟨2, f_law_pick, []⟩)]) ["draws", "size", "n", "d"] 54 [] = f_law_number := by kernel_rfl
theorem e_law_vector : mk (G [("_law_pick", ⟨2, f_law_pick, []⟩), ("_law_number", ⟨2, f_law_number, []⟩)]) ["draws", "many", "size", "lap"] 55 [] = f_law_vector := by kernel_rfl
theorem e_law_dot : mk (G [("_law_sum", ⟨1, f_law_sum, []⟩), ("_law_times", ⟨2, f_law_times, []⟩)]) ["one", "other", "left", "right"] 56 [] = f_law_dot := by kernel_rfl
theorem e_law_odd : mk (G [("_law_pick", ⟨2, f_law_pick, []⟩)]) ["draws", "some"] 57 [] = f_law_odd := by kernel_rfl
theorem e_law_ph_is_ratio : mk (G [("_law_q", ⟨2, f_law_q, []⟩)]) ["value", "part"] 58 [] = f_law_ph_is_ratio := by kernel_rfl
theorem e_law_ph_is_vector : mk (G [("_law_ph_is_ratio", ⟨1, f_law_ph_is_ratio, []⟩)]) ["value", "n", "part"] 59 [] = f_law_ph_is_vector := by kernel_rfl
theorem e_law_ph_keeps : mk (G [("_law_less", ⟨2, f_law_less, []⟩), ("_law_dot", ⟨2, f_law_dot, []⟩)]) ["limits", "point", "row", "bound"] 60 [] = f_law_ph_keeps := by kernel_rfl
theorem e_law_ph_turned : mk (G []) ["row", "part"] 61 [] = f_law_ph_turned := by kernel_rfl
theorem e_law_ph_bent (n : Nat) : mk (G [("_law_ph_bent", ⟨2, f_law_ph_bent n, []⟩), ("_law_draw", ⟨2, f_law_draw, []⟩), ("_law_ph_is_ratio", ⟨1, f_law_ph_is_ratio, []⟩), ("_law_pick", ⟨2, f_law_pick, []⟩), ("_law_plus", ⟨2, f_law_plus, []⟩), ("_law_minus", ⟨2, f_law_minus, []⟩)]) ["draws", "value", "some", "at"] 62 [] = f_law_ph_bent (n + 1) := by kernel_rfl
theorem e_law_ln_worths : mk (G [("_law_plus", ⟨2, f_law_plus, []⟩), ("_law_dot", ⟨2, f_law_dot, []⟩)]) ["lines", "point", "word", "f"] 63 [] = f_law_ln_worths := by kernel_rfl
theorem e_law_ln_chosen : mk (G [("_law_ln_worths", ⟨2, f_law_ln_worths, []⟩), ("_law_less", ⟨2, f_law_less, []⟩)]) ["lines", "point", "worths", "at", "worth"] 64 [] = f_law_ln_chosen := by kernel_rfl
theorem e_law_ln_limits : mk (G [("_law_minus", ⟨2, f_law_minus, []⟩)]) ["lines", "word", "own", "other", "f", "found", "left", "right"] 65 [(212, 2)] = f_law_ln_limits := by kernel_rfl
theorem e_law_is_word : mk (G []) ["value", "letter"] 66 [] = f_law_is_word := by kernel_rfl
theorem e_law_is_lines : mk (G [("_law_ph_is_vector", ⟨2, f_law_ph_is_vector, []⟩), ("_law_is_word", ⟨1, f_law_is_word, []⟩)]) ["value", "rows", "row", "wide", "at"] 67 [] = f_law_is_lines := by kernel_rfl
theorem e_law_lines : mk (G [("_law_words", ⟨2, f_law_words, []⟩), ("_law_pick", ⟨2, f_law_pick, []⟩), ("_law_draw", ⟨2, f_law_draw, []⟩), ("_law_vector", ⟨3, f_law_vector, []⟩), ("_law_ph_turned", ⟨1, f_law_ph_turned, []⟩), ("_law_minus", ⟨2, f_law_minus, []⟩)]) ["draws", "d", "words", "found", "size", "word", "some", "old", "f"] 68 [(231, 2), (234, 1), (235, 1)] = f_law_lines := by kernel_rfl
theorem e_law_near : mk (G [("_law_pick", ⟨2, f_law_pick, []⟩), ("_law_odd", ⟨1, f_law_odd, []⟩), ("_law_ph_bent", ⟨2, f_law_ph_bent bentN, []⟩), ("_law_draw", ⟨2, f_law_draw, []⟩)]) ["draws", "value", "rows", "wide", "f", "some", "word"] 69 [] = f_law_near := by kernel_rfl
theorem e_law_meeting : mk (G [("_law_plus", ⟨2, f_law_plus, []⟩), ("_law_vector", ⟨3, f_law_vector, []⟩), ("_law_dot", ⟨2, f_law_dot, []⟩), ("_law_minus", ⟨2, f_law_minus, []⟩), ("_law_pick", ⟨2, f_law_pick, []⟩), ("_law_draw", ⟨2, f_law_draw, []⟩), ("_law_over", ⟨2, f_law_over, []⟩)]) ["draws", "lines", "d", "one", "other", "row", "point", "left", "right", "places", "at", "lead"] 70 [] = f_law_meeting := by kernel_rfl
theorem e_law_points_right : mk (G [("_law_meeting", ⟨2, f_law_meeting, []⟩), ("_law_ln_chosen", ⟨2, f_law_ln_chosen, []⟩), ("_law_same", ⟨2, f_law_same, []⟩), ("_law_ln_limits", ⟨2, f_law_ln_limits, []⟩), ("chosen", ⟨2, f_chosen, [(0, ["point", "lines"], [1, 0])]⟩), ("_law_ph_keeps", ⟨2, f_law_ph_keeps, []⟩), ("region", ⟨2, f_region, [(1, ["word"], [0, 1])]⟩)]) ["draws", "lines", "d", "lap", "point", "due", "word", "f", "limits"] 71 [] = f_law_points_right := by kernel_rfl
theorem e_law_refused : mkL 7 ([("_law_pick", ⟨2, f_law_pick, []⟩), ("_law_is_lines", ⟨1, f_law_is_lines, []⟩), ("region", ⟨2, f_region, [(1, ["word"], [0, 1])]⟩), ("chosen", ⟨2, f_chosen, [(0, ["point", "lines"], [1, 0])]⟩)]) ["draws", "lines", "near", "d", "words", "row", "point", "odd", "absent"] 72 [] = f_law_refused := by kernel_rfl
-- lawlevel 15
end K90
end
end

-- text K7
section
set_option maxHeartbeats 4000000
set_option autoImplicit false
noncomputable section
namespace K90
open PySem PySem.Spec L2 TL TP
open PyProof.Rows hiding St
/-! ### the draws begin -/
def greatOf (ns : List Int) : List Int := ns.filterMap fun n => if 1000000000000000000 ≤ (n.natAbs : Int) then some ((n.natAbs : Int) - 1000000000000000000) else none
def cellsOf (ns : List Int) : List Int := ns.map fun n => (n.natAbs : Int)
def beganT (a ag ac : Addr) (ns : List Int) : Drw := ⟨a, ag, ac, greatOf ns, cellsOf ns, 0, 0⟩
def spBegun (W : Wd) : Sp := fun vs H Q _ => ∃ s ns, vs = [.ref s] ∧ SqL W.K H s (ns.map V.int) ∧ ns.length ≤ 1000 ∧ LamX.Tabs W.T H ∧ ∀ a ag ac H', (∀ b o, H b = some o → (∀ ps, o ≠ .tbl ps) → H' b = some o) → LamX.Tabs W.T H' → H a = none → H ag = none → H ac = none →
  H' a = some (.dK (kvT (beganT a ag ac ns))) → H' ag = some (.lst ((greatOf ns).map V.int)) → H' ac = some (.lst ((cellsOf ns).map V.int)) → ag ≠ ac → Q (.ref a) H'
theorem comp_pure {one : D → Mo (Option D)} {f : D → Option D} : ∀ {ds : List D} {g : TL.G}, (∀ d, d ∈ ds → one d g = .ok (f d) g) → compGo one ds g = .ok (ds.filterMap f) g
  | [], g, _ => rfl
  | d :: ds, g, h => by
    show ((one d) >>= fun o => (compGo one ds) >>= fun r => pure (match o with
      | some y => y :: r
      | none => r)) g = _
    rw [bind_ok (h d (List.mem_cons_self ..)), bind_ok (comp_pure fun d' hd => h d' (List.mem_cons_of_mem _ hd)), List.filterMap_cons]
    cases f d <;> rfl
abbrev NG : List Str := ["script", "great", "cell"]
abbrev scG : Scope := defScope (top 39)
theorem scopeG : FnScope NG ["script"] scG := ⟨rfl, rfl, rfl, by decide +kernel, rfl, by decide +kernel, by decide +kernel⟩
def vals0 : List (Str × D) := []
def G0 : Gt := { fns := [], vals := [], excs := [], free := ["abs"], blts := [] }
def st1 : Stmt := (defBody (top 39)).getD 0 (.Pass ⟨0, 0, 0, 0⟩)
def ln1 : Nat := st1.pos.line
abbrev csG : Cs := ⟨NG, scG, none, [(ln1, 2)], false⟩
noncomputable def run1 : Ev → Mo (Fl × Ev) := stS G0 (cmp G0 hkN 24) (blS G0 (cmp G0 hkN 24) csG 2) csG st1
def absE (i : Nat) : Ev → Mo D := callE absD (eCons (eV i) eNil)
def tenE : Ev → Mo D := eO powD (eC (.int 10)) (eC (.int 18))
def lc1 : Ev → Mo (List D) := lcC (asgN 2) (tstB (cmE .GtE (absE 2) tenE)) (eO subD (absE 2) tenE) [2] (seqI (eV 0))
theorem c_run1 : run1 = sNew 1 lc1 := by kernel_rfl
/-- the list of the cells -/
def lcX : Expr := match (defBody (top 39)).getD 1 (.Pass ⟨0, 0, 0, 0⟩) with
  | .Return (some (.Dict _ vs _)) _ => vs.getD 1 (.Constant .none 0 ⟨0, 0, 0, 0⟩)
  | _ => .Constant .none 0 ⟨0, 0, 0, 0⟩
noncomputable def run2 : Ev → Mo (List D) := newF G0 (cmp G0 hkN 24) csG lcX
def lc2 : Ev → Mo (List D) := lcC (asgN 2) tYes (absE 2) [2] (seqI (eV 0))
theorem c_run2 : run2 = lc2 := by kernel_rfl
theorem abs_if (n : Int) : (if n < 0 then -n else n) = (n.natAbs : Int) := by
  split <;> omega
theorem lc1_val (ns : List Int) (s1 : Sl) (s2 : Sl) (g : TL.G) : lc1 [.dat (.scr ns), s1, s2] g = .ok ((greatOf ns).map D.int) g := by
  show (Mo.of (some (ns.map D.int)) >>= fun ds => compGo (compOne (asgN 2) (tstB (cmE .GtE (absE 2) tenE)) (eO subD (absE 2) tenE) (wipeE [.dat (.scr ns), s1, s2] [2])) ds) g = _
  rw [show (Mo.of (some (ns.map D.int)) : Mo (List D)) = pure (ns.map D.int) from rfl, bind_ok (m := (pure (ns.map D.int) : Mo (List D))) (a := ns.map D.int) (g' := g) rfl]
  rw [comp_pure (f := fun d => match d with
    | .int n => if 1000000000000000000 ≤ (n.natAbs : Int) then some (.int ((n.natAbs : Int) - 1000000000000000000)) else none
    | _ => none) (fun d hd => ?_)]
  · congr 1
    unfold greatOf
    rw [List.filterMap_map, List.map_filterMap]
    congr 1
    funext n
    simp only [Function.comp]
    split <;> rfl
  · obtain ⟨n, _, rfl⟩ := List.mem_map.mp hd
    have e1 : tstB (cmE .GtE (absE 2) tenE) [.dat (.scr ns), s1, .dat (.int n)] = pure (decide ((1000000000000000000 : Int) ≤ (if n < 0 then -n else n))) := by kernel_rfl
    have e2 : eO subD (absE 2) tenE [.dat (.scr ns), s1, .dat (.int n)] = pure (.int ((if n < 0 then -n else n) - 1000000000000000000)) := by kernel_rfl
    rw [abs_if] at e1 e2
    show (nox (tstB (cmE .GtE (absE 2) tenE) [.dat (.scr ns), s1, .dat (.int n)]) >>= fun b => if b = true then (nox (eO subD (absE 2) tenE [.dat (.scr ns), s1, .dat (.int n)]) >>= fun y => pure (some y)) else pure none) g = Res.ok (if 1000000000000000000 ≤ (n.natAbs : Int) then _ else _) g
    rw [e1, e2]
    show (if decide ((1000000000000000000 : Int) ≤ (n.natAbs : Int)) = true then (pure (some (.int ((n.natAbs : Int) - 1000000000000000000))) : Mo (Option D)) else pure none) g = _
    by_cases c : (1000000000000000000 : Int) ≤ (n.natAbs : Int)
    · rw [if_pos c, if_pos (decide_eq_true c)] <;> rfl
    · rw [if_neg c, if_neg (by rw [decide_eq_true_eq]; exact c)] <;> rfl
theorem lc2_val (ns : List Int) (s1 : Sl) (s2 : Sl) (g : TL.G) : lc2 [.dat (.scr ns), s1, s2] g = .ok ((cellsOf ns).map D.int) g := by
  show (Mo.of (some (ns.map D.int)) >>= fun ds => compGo (compOne (asgN 2) tYes (absE 2) (wipeE [.dat (.scr ns), s1, s2] [2])) ds) g = _
  rw [show (Mo.of (some (ns.map D.int)) : Mo (List D)) = pure (ns.map D.int) from rfl, bind_ok (m := (pure (ns.map D.int) : Mo (List D))) (a := ns.map D.int) (g' := g) rfl]
  rw [comp_pure (f := fun d => match d with
    | .int n => some (.int (n.natAbs : Int))
    | _ => none) (fun d hd => ?_)]
  · congr 1
    unfold cellsOf
    rw [List.filterMap_map, List.map_map]
    induction ns with
    | nil => rfl
    | cons n ns ih => rw [List.filterMap_cons, List.map_cons]; exact congrArg _ ih
  · obtain ⟨n, _, rfl⟩ := List.mem_map.mp hd
    have e2 : absE 2 [.dat (.scr ns), s1, .dat (.int n)] = pure (.int (if n < 0 then -n else n)) := rfl
    rw [abs_if] at e2
    show (nox (absE 2 [.dat (.scr ns), s1, .dat (.int n)]) >>= fun y => pure (some y)) g = _
    rw [e2] <;> rfl
section
variable {W : Wd} {P : Program} {w : World} {K : PySem.W.Frag} {mg : Str → Option Value} {base : Heap} {k : Nat}
theorem gl0 (ha : mg "abs" = none) : GlP W P w K mg base k G0 :=
  ⟨fun x e h => (by cases h), fun x e h => (by cases h), fun x h => (by cases h), fun x h => (by
    have : x = "abs" := by simpa [G0] using h
    rw [this]; exact ha), fun x e h => (by cases h)⟩
theorem ok_begun {f : Addr} {fd : FuncData} {dvs : List V} {kws : List (Str × V)} (Fd : FunD K "_law_begun" "_law_begun" (defArgs (top 39)) (defBody (top 39)) scG dvs kws f fd) (hK : K = W.K) (hm : mg = W.mg) (ha : mg "abs" = none) :
    FnOk P w K mg base (L2.CX P w) (k + 1) f fd ["script"] (spBegun W) := by
  refine Fd.ok scopeG (fun vs H Q E h => ?_) (fun cdv A outer s H vs Q E hr h => ?_)
  · obtain ⟨s, ns, rfl, _⟩ := h
    rfl
  · obtain ⟨sa, ns, rfl, hS, hz, hT, q⟩ := h
    have so : StOk W G0 k E (cxOf (L2.CX P w) P w K mg base NG "_law_begun" scG f cdv A outer s H E) csG := st_ok hK hm scopeG (gl0 ha) hr (fun e => by cases e)
    have sn : Snd G0 W k (cmp G0 hkN 24) := cmp_ok hkN_ok 24
    have p1 : PS (cxOf (L2.CX P w) P w K mg base NG "_law_begun" scG f cdv A outer s H E) st1 (tS W E run1) := stS_ok sn so so.mg (fun b => blS_ok sn so 2 b) st1
    have p2 : PE (cxOf (L2.CX P w) P w K mg base NG "_law_begun" scG f cdv A outer s H E) lcX (tL W E run2) := newF_ok sn so lcX
    refine ⟨_, (show PSs (cxOf (L2.CX P w) P w K mg base NG "_law_begun" scG f cdv A outer s H E) (defBody (top 39)) _ from pss_cons p1 (pss_one (ps_ret (pe_disp (pps_cons pe_str (pv 1) (pps_cons pe_str p2 (pps_cons pe_str pe_int (pps_cons pe_str pe_int pps_nil)))) rfl rfl (by decide) (by decide))))), ?_⟩
    have w0 : Wf W (fun b => b = sa ∧ H b ≠ none) none H := ⟨fun b f => by
      cases q : H b with
      | none => exact absurd q f.2
      | some o => exact ⟨o, rfl⟩, fun b f ⟨t, e, _⟩ => (by cases e), trivial, hT⟩
    have rs : Rep W (fun b => b = sa ∧ H b ≠ none) H (.ref sa) (.scr ns) := .scr (by
      rcases hS with hS | hS
      · exact .inl ⟨⟨rfl, fun z => by rcases hS with hS | ⟨_, hS⟩ <;> rw [z] at hS <;> cases hS⟩, hS⟩
      · exact .inr (.inr hS)) (Nat.le_trans hz (by decide))
    refine ⟨⟨_, none, H, []⟩, _, none, envOf 3 [.scr ns], ss_start (N := NG) w0 (.cons rs .nil) (by show 1 ≤ 3; decide), ?_⟩
    rw [c_run1]
    have v1 : sNew 1 lc1 (envOf 3 [.scr ns]) none = .ok (.nx, [.dat (.scr ns), .cel ((greatOf ns).map D.int), .un]) none := by
      show (lc1 [.dat (.scr ns), .un, .un] >>= fun ds => pure (Fl.nx, ([.dat (.scr ns), .un, .un] : Ev).set 1 (.cel ds))) none = _
      rw [bind_ok (lc1_val ns .un .un none)] <;> rfl
    rw [v1]
    intro F1 H1 x1 σ1 s1
    obtain ⟨o, e1, ag, us, e2, e3, r1, z1, nf1, _⟩ := s1.s.at_ 1 _ rfl
    have h1 : H ag = none := s1.cn 1 _ ag rfl (by rw [e1, e2])
    have eu := r1.ints
    subst eu
    intro p hp
    refine ⟨.ref ag, by rw [e1, e2], ?_⟩
    have xp : Ext W F1 none H1 F1 none (upd H1 p (.dK [])) := Ext.newT s1.s.wf hp
    refine ⟨F1, none, _, s1.s.ext xp, ?_⟩
    rw [c_run2, lc2_val]
    intro F2 H2 x2 ac vs hn hac nf2 _ r2 _
    have ev := (show RepL W F2 H2 vs ((cellsOf ns).map D.int) from r2).ints
    subst ev
    have hpp : H2 p = some (.dK []) := x2.kp _ _ upd_same (fun ⟨t, e, _⟩ => by cases e) (fun _ z => by cases z)
    have hag : H2 ag = some (.lst ((greatOf ns).map V.int)) := x2.kp _ _ (by rw [upd_ne (ne_of_none e3 hp)]; exact e3) (fun ⟨t, e, _⟩ => by cases e) (fun _ z => by cases z)
    refine ⟨hpp, kvT (beganT p ag ac ns), rfl, by show 4 ≤ 15; decide, ?_⟩
    have n1 : ag ≠ p := fun z => by rw [z, hpp] at hag; cases hag
    have n2 : ac ≠ p := fun z => by rw [z, hpp] at hac; cases hac
    have n3 : ag ≠ ac := fun z => by
      have : upd H1 p (.dK []) ag = some (.lst ((greatOf ns).map V.int)) := by rw [upd_ne n1]; exact e3
      rw [z, hn] at this
      cases this
    have x12 := (x1.trans xp).trans x2
    have hac0 : H ac = none := by
      cases qq : H ac with
      | none => rfl
      | some o =>
        obtain ⟨o', z⟩ := (x1.trans xp).th ac o qq
        rw [hn] at z
        cases z
    have hp0 : H p = none := by
      cases qq : H p with
      | none => rfl
      | some o =>
        obtain ⟨o', z⟩ := x1.th p o qq
        rw [hp] at z
        cases z
    refine q p ag ac _ (fun b o e t => ?_) ?_ hp0 h1 hac0 upd_same ?_ ?_ n3
    · rw [upd_ne (ne_of_none e hp0)]
      exact x12.kp b o e (fun ⟨t, e, _⟩ => by cases e) t
    · intro pt hpt
      obtain ⟨ps, g1, g2, g3⟩ := x2.wf.tb pt hpt
      refine ⟨ps, by rw [upd_ne (fun z => by rw [z, hpp] at g1; cases g1)]; exact g1, g2, fun pos cv hc => ?_⟩
      obtain ⟨c, e1, e2⟩ := g3 pos cv hc
      exact ⟨c, e1, by rw [upd_ne (fun z => by rw [z, hpp] at e2; unfold LamX.CodeO at e2; cases e2)]; exact e2⟩
    · rw [upd_ne n1]; exact hag
    · rw [upd_ne n2]; exact hac
end
end K90
end
end

-- text K9
section
set_option maxHeartbeats 0
set_option autoImplicit false
namespace K90
open PySem PySem.Spec L2 TL TP
open PyProof.Rows hiding St
abbrev pP : Program := PySem.Challenge.pw_taughtloss_k90_lines_and_what_they_choos
def dD (x : Str) (i : Nat) : He.DefD := ⟨(x, none), x, x, defArgs (top i), defBody (top i), defScope (top i), [], []⟩
def names : List (Str × Nat) := pP.main.body.zipIdx.filterMap fun q => match q.1 with
  | .FunctionDef x _ _ _ _ _ _ _ _ _ => some (x, q.2)
  | _ => none
def fn : List He.DefD := names.map fun q => dD q.1 q.2
def excs : List Str := ["TeachError", "BadPoint", "BadWord", "BadLines"]
def frees : List Str := ["isinstance", "int", "bool", "tuple", "str", "list", "dict", "len", "all", "any", "abs", "min", "range", "zip", "sorted"]
def fa : List He.Fa := (names.map fun q => He.Fa.glo q.1) ++ (excs.map fun x => He.Fa.glo x) ++ (frees.map fun x => He.Fa.free x) ++ [.int "MOST" 200, .int "MOST_LINES" 6, .int "MOST_PLACES" 3, .str "LETTERS" "abcdefghijklmnopqrstuvwxyz", .glo "ZERO"] ++ (excs.map fun x => He.Fa.exc x) ++ (excs.map fun x => He.Fa.exm x "TeachError" true)
def excCB (K : PySem.W.Frag) (D : Addr) : Bool := decide (PySem.W.findIn K (.ref D) "__getattribute__" = some (some (.builtin "BaseException.__getattribute__"))) && decide (PySem.W.findIn K (.ref D) "__getattr__" = some none) && decide (PySem.W.subIn K (.ref D) (.type "BaseException") = some true) &&
  PySem.W.hasDictIn K D && decide (PySem.W.findIn K (.ref D) "__class__" = some (some (.builtin "object.__class__"))) && decide (PySem.W.specialIn K (.builtin "object.__class__") "__get__" = some (some (.builtin "getset_descriptor.__get__"))) && decide (PySem.W.takesIn K (.builtin "object.__class__") = some true) && decide (PySem.W.mroIn K D (.type "object") = some true) &&
  decide (PySem.W.kitOne K (.ref D) (.ref D) = some true)
def exB (K : PySem.W.Frag) : Bool := (excs.all fun x => excCB K (He.ga K x)) && He.tupB K "ZERO" [.int 0, .int 1] && (match PySem.W.nsIn K mainGlobals "gcd" with
  | some (some (.builtin i)) => decide (i = "math.gcd")
  | _ => false)
abbrev R : PySem.W.OpenRow := PySem.W.OpenLaw.row PySem.Challenge.rw_taughtloss_k90_lines_and_what_they_choos
def tf : List He.Defn := [("_law_refused", none)]
abbrev hkH : PySem.W.Hook := He.hookX 5 fa fn [] tf exB
def ob (s : PySem.W.SharedT) : He.AlX := He.obsX 5 fa fn [] tf exB (HandSHeadRun.getT s)
theorem ob_eq (s : PySem.W.SharedT) : ob s = hkH.obs s.abs := He.obsX_eq (HandSHeadRun.getT_eq s)
def loose1 : List Str := ["gcd", "__name__", "TeachError", "BadPoint", "BadWord", "BadLines", "ZERO", "MOST", "LETTERS", "MOST_LINES", "MOST_PLACES"]
def loose2 : List Str := (names.map (·.1)).filter fun x => !decide (x = "law")
def lo : List Str := loose1 ++ loose2
def qv : Program := PySem.W.view R.prog [0, 73]
theorem run (w : World) : HandSHeadRun.RunEqI R qv hkH ob 4000 lo w := by
  unfold HandSHeadRun.RunEqI
  kernel_rfl
end K90
end

-- text K8
section
set_option maxHeartbeats 4000000
set_option autoImplicit false
namespace K90
open PySem PySem.Spec L2 TL TP
open PyProof.Rows hiding St
/-! ### all defs keep their promises -/
structure Bs (W : Wd) (P : Program) (w : World) (K : PySem.W.Frag) (mg : Str → Option Value) (base : Heap) : Prop where
  hK : K = W.K
  hm : mg = W.mg
  fd : ∀ x i, (x, i) ∈ names → (∃ fd, FunD K x x (defArgs (top i)) (defBody (top i)) (defScope (top i)) [] [] (He.ga K x) fd) ∧ mg x = some (.ref (He.ga K x))
  gl : ∀ k fns, AllF W P w K mg base k fns → GlP W P w K mg base k (G fns)
  draw : FEk W P w K mg base 2 "_law_draw" ⟨2, f_law_draw, []⟩
  cg : ∀ oc od osl fd, K.lookup (He.ga K "_law_refused") = some ⟨oc, od, .func fd, osl⟩ → ∀ k0 k fns, k0 + 2 ≤ k → AllF W P w K mg base k0 fns → CgF (G fns) k0 "_law_caught" exc0 W P w K mg base k fd.code ("_law_refused" ++ ".<locals>.")
section
variable {W : Wd} {P : Program} {w : World} {K : PySem.W.Frag} {mg : Str → Option Value} {base : Heap}
theorem allF_mono {j k : Nat} (hj : j ≤ k) : ∀ {l : List (Str × FnE)}, AllF W P w K mg base j l → AllF W P w K mg base k l
  | [], _ => True.intro
  | _ :: _, ⟨h1, h2⟩ => ⟨h1.mono hj, allF_mono hj h2⟩
abbrev BindP (x : Str) (i : Nat) (ps : List Str) : Prop := ∀ (kV doc pm : Value) (an : Option Addr) (cdv ct : Value) (us : List Value), us.length = ps.length → bindArgs (PySem.W.fnOf x x (defArgs (top i)) (defBody (top i)) (defScope (top i)) .none kV doc pm an cdv ct) ⟨us, []⟩ = pure (ps.zip us)
abbrev KwP (x : Str) (i : Nat) (ps : List Str) (kws : List (Nat × List Str × List Nat)) : Prop := ∀ q, q ∈ kws → q.2.2.length = ps.length ∧ q.2.2.length = ps.length ∧ ∀ (kV doc pm : Value) (an : Option Addr) (cdv ct : Value) (us ws xs : List Value), us.length = q.1 → ws.length = q.2.1.length → pickAt q.2.2 (us ++ ws) = some xs →
  bindArgs (PySem.W.fnOf x x (defArgs (top i)) (defBody (top i)) (defScope (top i)) .none kV doc pm an cdv ct) ⟨us, q.2.1.zip ws⟩ = pure (ps.zip xs)
theorem fe_of {x : Str} {i : Nat} {ps : List Str} {run : List D → Mo D} {k : Nat} {f : Addr} {fd : FuncData} {kws : List (Nat × List Str × List Nat)} (Fd : FunD K x x (defArgs (top i)) (defBody (top i)) (defScope (top i)) [] [] f fd) (hm : mg x = some (.ref f)) (F : FnOk P w K mg base (L2.CX P w) k f fd ps (spD W ps.length run))
    (hb : BindP x i ps) (hk : KwP x i ps kws) : FEk W P w K mg base k x ⟨ps.length, run, kws⟩ := by
  refine ⟨f, fd, ps, k, Nat.le_refl _, F, hm, Fd.kp, Fd.bindsN hb, fun q hq => ?_⟩
  obtain ⟨h1, h2, h3⟩ := hk q hq
  obtain ⟨oc, od, dV, kV, doc, pm, an, cdv, ct, osl, e, lk, hcd, hD, hKw⟩ := Fd.ex
  rcases hD with ⟨_, rfl⟩ | ⟨z, _⟩
  · subst e
    exact ⟨⟨fun s us ws xs e1 e2 e3 => .of_eq (h3 kV doc pm an cdv ct us ws xs e1 e2 e3), h1⟩, h2⟩
  · exact absurd rfl z
theorem mkFE (B : Bs W P w K mg base) {x : Str} {i : Nat} {N ps : List Str} {hint : List (Nat × Nat)} {k : Nat} {fns : List (Str × FnE)} {kws : List (Nat × List Str × List Nat)} {run : List D → Mo D} (hx : (x, i) ∈ names) (S : FnScope N ps (defScope (top i))) (h : AllF W P w K mg base k fns) (hb : BindP x i ps) (hk : KwP x i ps kws) (e : mk (G fns) N i hint = run) :
    FEk W P w K mg base (k + 1) x ⟨ps.length, run, kws⟩ := by
  subst e
  obtain ⟨⟨fd, Fd⟩, hm⟩ := B.fd x i hx
  exact fe_of Fd hm (fn_run hint 24 6 B.hK B.hm Fd S (B.gl k fns h) hkN_ok) hb hk
theorem mkF0 (B : Bs W P w K mg base) {x : Str} {i : Nat} {N ps : List Str} {k : Nat} (hx : (x, i) ∈ names) (S : FnScope N ps (defScope (top i))) (hb : BindP x i ps) : FEk W P w K mg base (k + 1) x ⟨ps.length, fun _ => Mo.fail, []⟩ := by
  obtain ⟨⟨fd, Fd⟩, hm⟩ := B.fd x i hx
  exact fe_of Fd hm (Fd.ok S (fun vs H Q E ⟨F, g, ds, _, r, hl, p⟩ => p.elim) (fun cdv A outer s H vs Q E hr ⟨F, g, ds, _, r, hl, p⟩ => p.elim)) hb (fun q hq => by cases hq)
theorem mkFL (B : Bs W P w K mg base) {i : Nat} {N ps : List Str} {hint : List (Nat × Nat)} {k0 : Nat} {fns : List (Str × FnE)} {kws : List (Nat × List Str × List Nat)} {run : List D → Mo D} (hx : (("_law_refused" : Str), i) ∈ names) (S : FnScope N ps (defScope (top i))) (h : AllF W P w K mg base k0 fns) (hb : BindP "_law_refused" i ps) (hk : KwP "_law_refused" i ps kws) (e : mkL k0 fns N i hint = run) :
    FEk W P w K mg base (k0 + 3) "_law_refused" ⟨ps.length, run, kws⟩ := by
  subst e
  obtain ⟨⟨fd, Fd⟩, hm⟩ := B.fd _ i hx
  refine fe_of Fd hm ?_ hb hk
  have g1 := B.gl (k0 + 2) fns (allF_mono (by omega) h)
  have gl : GlP W P w K mg base (k0 + 2) (GL k0 fns) := ⟨g1.fns, g1.vals, g1.excs, g1.free, g1.blts⟩
  have hpl : ps.length ≤ N.length := by
    have := congrArg List.length S.pre
    rw [List.length_take] at this
    omega
  obtain ⟨oc, od, dV, kV, doc, pm, an, cdv, ct, osl, e, lk, hcd, hD, hKw⟩ := Fd.ex
  subst e
  have hc := B.cg _ _ _ _ lk k0 (k0 + 2) fns (Nat.le_refl _) h
  refine fn_of lk hcd S (fun vs H Q E hs => ?_) (fun A outer s H vs Q E hr hs => ?_)
  · obtain ⟨F, g, ds, _, r, hl, _⟩ := hs
    rw [r.length, hl]
  · obtain ⟨F, g, ds, wf, r, hl, p⟩ := hs
    exact ⟨_, blS_ok (cmp_ok (hkC_ok rfl) 24) (st_ok B.hK B.hm S gl hr (fun _ => hc)) 6 _, fn_start wf r (by rw [hl]; exact hpl) p⟩
/-- what law calls -/
noncomputable abbrev lawFns : List (Str × FnE) := [("_law_lines", ⟨1, f_law_lines, []⟩), ("_law_near", ⟨2, f_law_near, []⟩), ("_law_is_truth", ⟨2, f_law_is_truth, []⟩), ("_law_points_right", ⟨2, f_law_points_right, []⟩), ("_law_refused", ⟨3, f_law_refused, []⟩), ("is_lines", ⟨1, f_is_lines, [(0, ["value"], [0])]⟩), ("_law_is_lines", ⟨1, f_law_is_lines, []⟩)]
abbrev LawF (W : Wd) (P : Program) (w : World) (K : PySem.W.Frag) (mg : Str → Option Value) (base : Heap) : Prop := AllF W P w K mg base 15 lawFns
theorem o_is_whole (B : Bs W P w K mg base) (h : AllF W P w K mg base 0 []) : FEk W P w K mg base 1 "is_whole" ⟨1, f_is_whole, []⟩ := mkFE B (x := "is_whole") (i := 8) (N := ["value"]) (ps := ["value"]) (hint := []) (fns := []) (by decide +kernel) ⟨rfl, rfl, rfl, by decide +kernel, rfl, by decide +kernel, by decide +kernel⟩ h (fun _ _ _ _ _ _ us hl => match us, hl with | [_], _ => rfl) (fun q hq => by cases hq) e_is_whole
theorem o_is_ratio (B : Bs W P w K mg base) (h : AllF W P w K mg base 1 [("is_whole", ⟨1, f_is_whole, []⟩)]) : FEk W P w K mg base 2 "is_ratio" ⟨1, f_is_ratio, []⟩ := mkFE B (x := "is_ratio") (i := 9) (N := ["value", "part"]) (ps := ["value"]) (hint := []) (fns := [("is_whole", ⟨1, f_is_whole, []⟩)]) (by decide +kernel) ⟨rfl, rfl, rfl, by decide +kernel, rfl, by decide +kernel, by decide +kernel⟩ h (fun _ _ _ _ _ _ us hl => match us, hl with | [_], _ => rfl) (fun q hq => by cases hq) e_is_ratio
theorem o_lowest (B : Bs W P w K mg base) (h : AllF W P w K mg base 0 []) : FEk W P w K mg base 1 "lowest" ⟨2, f_lowest, []⟩ := mkFE B (x := "lowest") (i := 10) (N := ["n", "d", "common"]) (ps := ["n", "d"]) (hint := []) (fns := []) (by decide +kernel) ⟨rfl, rfl, rfl, by decide +kernel, rfl, by decide +kernel, by decide +kernel⟩ h (fun _ _ _ _ _ _ us hl => match us, hl with | [_, _], _ => rfl) (fun q hq => by cases hq) e_lowest
theorem o_plus (B : Bs W P w K mg base) (h : AllF W P w K mg base 1 [("lowest", ⟨2, f_lowest, []⟩)]) : FEk W P w K mg base 2 "plus" ⟨2, f_plus, []⟩ := mkFE B (x := "plus") (i := 11) (N := ["one", "other"]) (ps := ["one", "other"]) (hint := []) (fns := [("lowest", ⟨2, f_lowest, []⟩)]) (by decide +kernel) ⟨rfl, rfl, rfl, by decide +kernel, rfl, by decide +kernel, by decide +kernel⟩ h (fun _ _ _ _ _ _ us hl => match us, hl with | [_, _], _ => rfl) (fun q hq => by cases hq) e_plus
theorem o_minus (B : Bs W P w K mg base) (h : AllF W P w K mg base 1 [("lowest", ⟨2, f_lowest, []⟩)]) : FEk W P w K mg base 2 "minus" ⟨2, f_minus, []⟩ := mkFE B (x := "minus") (i := 12) (N := ["one", "other"]) (ps := ["one", "other"]) (hint := []) (fns := [("lowest", ⟨2, f_lowest, []⟩)]) (by decide +kernel) ⟨rfl, rfl, rfl, by decide +kernel, rfl, by decide +kernel, by decide +kernel⟩ h (fun _ _ _ _ _ _ us hl => match us, hl with | [_, _], _ => rfl) (fun q hq => by cases hq) e_minus
theorem o_times (B : Bs W P w K mg base) (h : AllF W P w K mg base 1 [("lowest", ⟨2, f_lowest, []⟩)]) : FEk W P w K mg base 2 "times" ⟨2, f_times, []⟩ := mkFE B (x := "times") (i := 13) (N := ["one", "other"]) (ps := ["one", "other"]) (hint := []) (fns := [("lowest", ⟨2, f_lowest, []⟩)]) (by decide +kernel) ⟨rfl, rfl, rfl, by decide +kernel, rfl, by decide +kernel, by decide +kernel⟩ h (fun _ _ _ _ _ _ us hl => match us, hl with | [_, _], _ => rfl) (fun q hq => by cases hq) e_times
theorem o_is_less (B : Bs W P w K mg base) (h : AllF W P w K mg base 0 []) : FEk W P w K mg base 1 "is_less" ⟨2, f_is_less, []⟩ := mkFE B (x := "is_less") (i := 14) (N := ["one", "other"]) (ps := ["one", "other"]) (hint := []) (fns := []) (by decide +kernel) ⟨rfl, rfl, rfl, by decide +kernel, rfl, by decide +kernel, by decide +kernel⟩ h (fun _ _ _ _ _ _ us hl => match us, hl with | [_, _], _ => rfl) (fun q hq => by cases hq) e_is_less
theorem o_total (B : Bs W P w K mg base) (h : AllF W P w K mg base 2 [("plus", ⟨2, f_plus, []⟩)]) : FEk W P w K mg base 3 "total" ⟨1, f_total, []⟩ := mkFE B (x := "total") (i := 15) (N := ["ratios", "found", "each"]) (ps := ["ratios"]) (hint := []) (fns := [("plus", ⟨2, f_plus, []⟩)]) (by decide +kernel) ⟨rfl, rfl, rfl, by decide +kernel, rfl, by decide +kernel, by decide +kernel⟩ h (fun _ _ _ _ _ _ us hl => match us, hl with | [_], _ => rfl) (fun q hq => by cases hq) e_total
theorem o_greatest_of (B : Bs W P w K mg base) (h : AllF W P w K mg base 1 [("is_less", ⟨2, f_is_less, []⟩)]) : FEk W P w K mg base 2 "greatest_of" ⟨1, f_greatest_of, []⟩ := mkFE B (x := "greatest_of") (i := 16) (N := ["ratios", "found", "each"]) (ps := ["ratios"]) (hint := []) (fns := [("is_less", ⟨2, f_is_less, []⟩)]) (by decide +kernel) ⟨rfl, rfl, rfl, by decide +kernel, rfl, by decide +kernel, by decide +kernel⟩ h (fun _ _ _ _ _ _ us hl => match us, hl with | [_], _ => rfl) (fun q hq => by cases hq) e_greatest_of
theorem o_is_vector (B : Bs W P w K mg base) (h : AllF W P w K mg base 2 [("is_ratio", ⟨1, f_is_ratio, []⟩)]) : FEk W P w K mg base 3 "is_vector" ⟨1, f_is_vector, []⟩ := mkFE B (x := "is_vector") (i := 19) (N := ["value", "part"]) (ps := ["value"]) (hint := []) (fns := [("is_ratio", ⟨1, f_is_ratio, []⟩)]) (by decide +kernel) ⟨rfl, rfl, rfl, by decide +kernel, rfl, by decide +kernel, by decide +kernel⟩ h (fun _ _ _ _ _ _ us hl => match us, hl with | [_], _ => rfl) (fun q hq => by cases hq) e_is_vector
theorem o_dot (B : Bs W P w K mg base) (h : AllF W P w K mg base 3 [("total", ⟨1, f_total, []⟩), ("times", ⟨2, f_times, []⟩)]) : FEk W P w K mg base 4 "dot" ⟨2, f_dot, []⟩ := mkFE B (x := "dot") (i := 20) (N := ["one", "other", "left", "right"]) (ps := ["one", "other"]) (hint := []) (fns := [("total", ⟨1, f_total, []⟩), ("times", ⟨2, f_times, []⟩)]) (by decide +kernel) ⟨rfl, rfl, rfl, by decide +kernel, rfl, by decide +kernel, by decide +kernel⟩ h (fun _ _ _ _ _ _ us hl => match us, hl with | [_, _], _ => rfl) (fun q hq => by cases hq) e_dot
theorem o_apart (B : Bs W P w K mg base) (h : AllF W P w K mg base 2 [("minus", ⟨2, f_minus, []⟩)]) : FEk W P w K mg base 3 "apart" ⟨2, f_apart, []⟩ := mkFE B (x := "apart") (i := 21) (N := ["one", "other", "left", "right"]) (ps := ["one", "other"]) (hint := []) (fns := [("minus", ⟨2, f_minus, []⟩)]) (by decide +kernel) ⟨rfl, rfl, rfl, by decide +kernel, rfl, by decide +kernel, by decide +kernel⟩ h (fun _ _ _ _ _ _ us hl => match us, hl with | [_, _], _ => rfl) (fun q hq => by cases hq) e_apart
theorem o_is_word (B : Bs W P w K mg base) (h : AllF W P w K mg base 0 []) : FEk W P w K mg base 1 "is_word" ⟨1, f_is_word, []⟩ := mkFE B (x := "is_word") (i := 24) (N := ["value", "letter"]) (ps := ["value"]) (hint := []) (fns := []) (by decide +kernel) ⟨rfl, rfl, rfl, by decide +kernel, rfl, by decide +kernel, by decide +kernel⟩ h (fun _ _ _ _ _ _ us hl => match us, hl with | [_], _ => rfl) (fun q hq => by cases hq) e_is_word
theorem o_is_line (B : Bs W P w K mg base) (h : AllF W P w K mg base 3 [("is_word", ⟨1, f_is_word, []⟩), ("is_vector", ⟨1, f_is_vector, []⟩)]) : FEk W P w K mg base 4 "is_line" ⟨1, f_is_line, []⟩ := mkFE B (x := "is_line") (i := 28) (N := ["value"]) (ps := ["value"]) (hint := []) (fns := [("is_word", ⟨1, f_is_word, []⟩), ("is_vector", ⟨1, f_is_vector, []⟩)]) (by decide +kernel) ⟨rfl, rfl, rfl, by decide +kernel, rfl, by decide +kernel, by decide +kernel⟩ h (fun _ _ _ _ _ _ us hl => match us, hl with | [_], _ => rfl) (fun q hq => by cases hq) e_is_line
theorem o_is_lines (B : Bs W P w K mg base) (h : AllF W P w K mg base 4 [("is_line", ⟨1, f_is_line, []⟩)]) : FEk W P w K mg base 5 "is_lines" ⟨1, f_is_lines, [(0, ["value"], [0])]⟩ := mkFE B (x := "is_lines") (i := 29) (N := ["value", "rows", "row", "at"]) (ps := ["value"]) (hint := []) (fns := [("is_line", ⟨1, f_is_line, []⟩)]) (by decide +kernel) ⟨rfl, rfl, rfl, by decide +kernel, rfl, by decide +kernel, by decide +kernel⟩ h (fun _ _ _ _ _ _ us hl => match us, hl with | [_], _ => rfl) (fun q hq => by
    simp only [List.mem_cons, List.not_mem_nil, or_false] at hq
    rcases hq with rfl
    · exact ⟨rfl, rfl, fun _ _ _ _ _ _ us ws xs h1 h2 h3 => by
        match us, ws, h1, h2 with
        | [], [w0], _, _ => cases h3; rfl⟩) e_is_lines
theorem o_need_lines (B : Bs W P w K mg base) (h : AllF W P w K mg base 5 [("is_lines", ⟨1, f_is_lines, [(0, ["value"], [0])]⟩)]) : FEk W P w K mg base 6 "need_lines" ⟨1, f_need_lines, []⟩ := mkFE B (x := "need_lines") (i := 30) (N := ["value"]) (ps := ["value"]) (hint := []) (fns := [("is_lines", ⟨1, f_is_lines, [(0, ["value"], [0])]⟩)]) (by decide +kernel) ⟨rfl, rfl, rfl, by decide +kernel, rfl, by decide +kernel, by decide +kernel⟩ h (fun _ _ _ _ _ _ us hl => match us, hl with | [_], _ => rfl) (fun q hq => by cases hq) e_need_lines
theorem o_places_of_lines (B : Bs W P w K mg base) (h : AllF W P w K mg base 0 []) : FEk W P w K mg base 1 "places_of_lines" ⟨1, f_places_of_lines, []⟩ := mkFE B (x := "places_of_lines") (i := 31) (N := ["lines"]) (ps := ["lines"]) (hint := []) (fns := []) (by decide +kernel) ⟨rfl, rfl, rfl, by decide +kernel, rfl, by decide +kernel, by decide +kernel⟩ h (fun _ _ _ _ _ _ us hl => match us, hl with | [_], _ => rfl) (fun q hq => by cases hq) e_places_of_lines
theorem o_need_line_word (B : Bs W P w K mg base) (h : AllF W P w K mg base 1 [("is_word", ⟨1, f_is_word, []⟩)]) : FEk W P w K mg base 2 "need_line_word" ⟨2, f_need_line_word, []⟩ := mkFE B (x := "need_line_word") (i := 32) (N := ["lines", "word", "row"]) (ps := ["lines", "word"]) (hint := []) (fns := [("is_word", ⟨1, f_is_word, []⟩)]) (by decide +kernel) ⟨rfl, rfl, rfl, by decide +kernel, rfl, by decide +kernel, by decide +kernel⟩ h (fun _ _ _ _ _ _ us hl => match us, hl with | [_, _], _ => rfl) (fun q hq => by cases hq) e_need_line_word
theorem o_worth_of (B : Bs W P w K mg base) (h : AllF W P w K mg base 4 [("plus", ⟨2, f_plus, []⟩), ("dot", ⟨2, f_dot, []⟩)]) : FEk W P w K mg base 5 "worth_of" ⟨2, f_worth_of, []⟩ := mkFE B (x := "worth_of") (i := 33) (N := ["f", "point"]) (ps := ["f", "point"]) (hint := []) (fns := [("plus", ⟨2, f_plus, []⟩), ("dot", ⟨2, f_dot, []⟩)]) (by decide +kernel) ⟨rfl, rfl, rfl, by decide +kernel, rfl, by decide +kernel, by decide +kernel⟩ h (fun _ _ _ _ _ _ us hl => match us, hl with | [_, _], _ => rfl) (fun q hq => by cases hq) e_worth_of
theorem o_greatest_words (B : Bs W P w K mg base) (h : AllF W P w K mg base 5 [("greatest_of", ⟨1, f_greatest_of, []⟩), ("worth_of", ⟨2, f_worth_of, []⟩)]) : FEk W P w K mg base 6 "greatest_words" ⟨2, f_greatest_words, []⟩ := mkFE B (x := "greatest_words") (i := 34) (N := ["lines", "point", "worths", "word", "f", "high", "row", "worth"]) (ps := ["lines", "point"]) (hint := []) (fns := [("greatest_of", ⟨1, f_greatest_of, []⟩), ("worth_of", ⟨2, f_worth_of, []⟩)]) (by decide +kernel) ⟨rfl, rfl, rfl, by decide +kernel, rfl, by decide +kernel, by decide +kernel⟩ h (fun _ _ _ _ _ _ us hl => match us, hl with | [_, _], _ => rfl) (fun q hq => by cases hq) e_greatest_words
theorem o_chosen (B : Bs W P w K mg base) (h : AllF W P w K mg base 6 [("need_lines", ⟨1, f_need_lines, []⟩), ("greatest_words", ⟨2, f_greatest_words, []⟩), ("is_vector", ⟨1, f_is_vector, []⟩), ("places_of_lines", ⟨1, f_places_of_lines, []⟩)]) : FEk W P w K mg base 7 "chosen" ⟨2, f_chosen, [(0, ["point", "lines"], [1, 0])]⟩ := mkFE B (x := "chosen") (i := 35) (N := ["lines", "point"]) (ps := ["lines", "point"]) (hint := []) (fns := [("need_lines", ⟨1, f_need_lines, []⟩), ("greatest_words", ⟨2, f_greatest_words, []⟩), ("is_vector", ⟨1, f_is_vector, []⟩), ("places_of_lines", ⟨1, f_places_of_lines, []⟩)]) (by decide +kernel) ⟨rfl, rfl, rfl, by decide +kernel, rfl, by decide +kernel, by decide +kernel⟩ h (fun _ _ _ _ _ _ us hl => match us, hl with | [_, _], _ => rfl) (fun q hq => by
    simp only [List.mem_cons, List.not_mem_nil, or_false] at hq
    rcases hq with rfl
    · exact ⟨rfl, rfl, fun _ _ _ _ _ _ us ws xs h1 h2 h3 => by
        match us, ws, h1, h2 with
        | [], [w0, w1], _, _ => cases h3; rfl⟩) e_chosen
theorem o_limits_of (B : Bs W P w K mg base) (h : AllF W P w K mg base 3 [("apart", ⟨2, f_apart, []⟩), ("minus", ⟨2, f_minus, []⟩)]) : FEk W P w K mg base 4 "limits_of" ⟨2, f_limits_of, []⟩ := mkFE B (x := "limits_of") (i := 36) (N := ["lines", "word", "own", "other", "f", "found"]) (ps := ["lines", "word"]) (hint := [(89, 2)]) (fns := [("apart", ⟨2, f_apart, []⟩), ("minus", ⟨2, f_minus, []⟩)]) (by decide +kernel) ⟨rfl, rfl, rfl, by decide +kernel, rfl, by decide +kernel, by decide +kernel⟩ h (fun _ _ _ _ _ _ us hl => match us, hl with | [_, _], _ => rfl) (fun q hq => by cases hq) e_limits_of
theorem o_region (B : Bs W P w K mg base) (h : AllF W P w K mg base 6 [("need_lines", ⟨1, f_need_lines, []⟩), ("need_line_word", ⟨2, f_need_line_word, []⟩), ("places_of_lines", ⟨1, f_places_of_lines, []⟩), ("limits_of", ⟨2, f_limits_of, []⟩)]) : FEk W P w K mg base 7 "region" ⟨2, f_region, [(1, ["word"], [0, 1])]⟩ := mkFE B (x := "region") (i := 37) (N := ["lines", "word"]) (ps := ["lines", "word"]) (hint := []) (fns := [("need_lines", ⟨1, f_need_lines, []⟩), ("need_line_word", ⟨2, f_need_line_word, []⟩), ("places_of_lines", ⟨1, f_places_of_lines, []⟩), ("limits_of", ⟨2, f_limits_of, []⟩)]) (by decide +kernel) ⟨rfl, rfl, rfl, by decide +kernel, rfl, by decide +kernel, by decide +kernel⟩ h (fun _ _ _ _ _ _ us hl => match us, hl with | [_, _], _ => rfl) (fun q hq => by
    simp only [List.mem_cons, List.not_mem_nil, or_false] at hq
    rcases hq with rfl
    · exact ⟨rfl, rfl, fun _ _ _ _ _ _ us ws xs h1 h2 h3 => by
        match us, ws, h1, h2 with
        | [u0], [w0], _, _ => cases h3; rfl⟩) e_region
theorem o_law_pick (B : Bs W P w K mg base) (h : AllF W P w K mg base 2 [("_law_draw", ⟨2, f_law_draw, []⟩)]) : FEk W P w K mg base 3 "_law_pick" ⟨2, f_law_pick, []⟩ := mkFE B (x := "_law_pick") (i := 42) (N := ["state", "some"]) (ps := ["state", "some"]) (hint := []) (fns := [("_law_draw", ⟨2, f_law_draw, []⟩)]) (by decide +kernel) ⟨rfl, rfl, rfl, by decide +kernel, rfl, by decide +kernel, by decide +kernel⟩ h (fun _ _ _ _ _ _ us hl => match us, hl with | [_, _], _ => rfl) (fun q hq => by cases hq) e_law_pick
theorem o_law_is_truth (B : Bs W P w K mg base) (h : AllF W P w K mg base 0 []) : FEk W P w K mg base 1 "_law_is_truth" ⟨2, f_law_is_truth, []⟩ := mkFE B (x := "_law_is_truth") (i := 44) (N := ["found", "due"]) (ps := ["found", "due"]) (hint := []) (fns := []) (by decide +kernel) ⟨rfl, rfl, rfl, by decide +kernel, rfl, by decide +kernel, by decide +kernel⟩ h (fun _ _ _ _ _ _ us hl => match us, hl with | [_, _], _ => rfl) (fun q hq => by cases hq) e_law_is_truth
theorem o_law_same (B : Bs W P w K mg base) (h : AllF W P w K mg base 1 [("_law_is_truth", ⟨2, f_law_is_truth, []⟩)]) : FEk W P w K mg base 2 "_law_same" ⟨2, f_law_same, []⟩ := mkFE B (x := "_law_same") (i := 45) (N := ["found", "due", "waiting", "one", "other", "key", "alike", "left", "right"]) (ps := ["found", "due"]) (hint := [(129, 2), (130, 1)]) (fns := [("_law_is_truth", ⟨2, f_law_is_truth, []⟩)]) (by decide +kernel) ⟨rfl, rfl, rfl, by decide +kernel, rfl, by decide +kernel, by decide +kernel⟩ h (fun _ _ _ _ _ _ us hl => match us, hl with | [_, _], _ => rfl) (fun q hq => by cases hq) e_law_same
theorem o_law_q (B : Bs W P w K mg base) (h : AllF W P w K mg base 0 []) : FEk W P w K mg base 1 "_law_q" ⟨2, f_law_q, []⟩ := mkFE B (x := "_law_q") (i := 46) (N := ["n", "d", "one", "other"]) (ps := ["n", "d"]) (hint := []) (fns := []) (by decide +kernel) ⟨rfl, rfl, rfl, by decide +kernel, rfl, by decide +kernel, by decide +kernel⟩ h (fun _ _ _ _ _ _ us hl => match us, hl with | [_, _], _ => rfl) (fun q hq => by cases hq) e_law_q
theorem o_law_plus (B : Bs W P w K mg base) (h : AllF W P w K mg base 1 [("_law_q", ⟨2, f_law_q, []⟩)]) : FEk W P w K mg base 2 "_law_plus" ⟨2, f_law_plus, []⟩ := mkFE B (x := "_law_plus") (i := 47) (N := ["one", "other"]) (ps := ["one", "other"]) (hint := []) (fns := [("_law_q", ⟨2, f_law_q, []⟩)]) (by decide +kernel) ⟨rfl, rfl, rfl, by decide +kernel, rfl, by decide +kernel, by decide +kernel⟩ h (fun _ _ _ _ _ _ us hl => match us, hl with | [_, _], _ => rfl) (fun q hq => by cases hq) e_law_plus
theorem o_law_minus (B : Bs W P w K mg base) (h : AllF W P w K mg base 1 [("_law_q", ⟨2, f_law_q, []⟩)]) : FEk W P w K mg base 2 "_law_minus" ⟨2, f_law_minus, []⟩ := mkFE B (x := "_law_minus") (i := 48) (N := ["one", "other"]) (ps := ["one", "other"]) (hint := []) (fns := [("_law_q", ⟨2, f_law_q, []⟩)]) (by decide +kernel) ⟨rfl, rfl, rfl, by decide +kernel, rfl, by decide +kernel, by decide +kernel⟩ h (fun _ _ _ _ _ _ us hl => match us, hl with | [_, _], _ => rfl) (fun q hq => by cases hq) e_law_minus
theorem o_law_times (B : Bs W P w K mg base) (h : AllF W P w K mg base 1 [("_law_q", ⟨2, f_law_q, []⟩)]) : FEk W P w K mg base 2 "_law_times" ⟨2, f_law_times, []⟩ := mkFE B (x := "_law_times") (i := 49) (N := ["one", "other"]) (ps := ["one", "other"]) (hint := []) (fns := [("_law_q", ⟨2, f_law_q, []⟩)]) (by decide +kernel) ⟨rfl, rfl, rfl, by decide +kernel, rfl, by decide +kernel, by decide +kernel⟩ h (fun _ _ _ _ _ _ us hl => match us, hl with | [_, _], _ => rfl) (fun q hq => by cases hq) e_law_times
theorem o_law_over (B : Bs W P w K mg base) (h : AllF W P w K mg base 1 [("_law_q", ⟨2, f_law_q, []⟩)]) : FEk W P w K mg base 2 "_law_over" ⟨2, f_law_over, []⟩ := mkFE B (x := "_law_over") (i := 50) (N := ["one", "other"]) (ps := ["one", "other"]) (hint := []) (fns := [("_law_q", ⟨2, f_law_q, []⟩)]) (by decide +kernel) ⟨rfl, rfl, rfl, by decide +kernel, rfl, by decide +kernel, by decide +kernel⟩ h (fun _ _ _ _ _ _ us hl => match us, hl with | [_, _], _ => rfl) (fun q hq => by cases hq) e_law_over
theorem o_law_less (B : Bs W P w K mg base) (h : AllF W P w K mg base 0 []) : FEk W P w K mg base 1 "_law_less" ⟨2, f_law_less, []⟩ := mkFE B (x := "_law_less") (i := 51) (N := ["one", "other"]) (ps := ["one", "other"]) (hint := []) (fns := []) (by decide +kernel) ⟨rfl, rfl, rfl, by decide +kernel, rfl, by decide +kernel, by decide +kernel⟩ h (fun _ _ _ _ _ _ us hl => match us, hl with | [_, _], _ => rfl) (fun q hq => by cases hq) e_law_less
theorem o_law_sum (B : Bs W P w K mg base) (h : AllF W P w K mg base 2 [("_law_plus", ⟨2, f_law_plus, []⟩)]) : FEk W P w K mg base 3 "_law_sum" ⟨1, f_law_sum, []⟩ := mkFE B (x := "_law_sum") (i := 52) (N := ["some", "found", "each"]) (ps := ["some"]) (hint := []) (fns := [("_law_plus", ⟨2, f_law_plus, []⟩)]) (by decide +kernel) ⟨rfl, rfl, rfl, by decide +kernel, rfl, by decide +kernel, by decide +kernel⟩ h (fun _ _ _ _ _ _ us hl => match us, hl with | [_], _ => rfl) (fun q hq => by cases hq) e_law_sum
theorem o_law_words (B : Bs W P w K mg base) (h : AllF W P w K mg base 3 [("_law_pick", ⟨2, f_law_pick, []⟩), ("_law_draw", ⟨2, f_law_draw, []⟩)]) : FEk W P w K mg base 4 "_law_words" ⟨2, f_law_words, []⟩ := mkFE B (x := "_law_words") (i := 53) (N := ["draws", "many", "found", "word", "lap"]) (ps := ["draws", "many"]) (hint := []) (fns := [("_law_pick", ⟨2, f_law_pick, []⟩), ("_law_draw", ⟨2, f_law_draw, []⟩)]) (by decide +kernel) ⟨rfl, rfl, rfl, by decide +kernel, rfl, by decide +kernel, by decide +kernel⟩ h (fun _ _ _ _ _ _ us hl => match us, hl with | [_, _], _ => rfl) (fun q hq => by cases hq) e_law_words
theorem o_law_number (B : Bs W P w K mg base) (h : AllF W P w K mg base 3 [("_law_q", ⟨2, f_law_q, []⟩), ("_law_draw", ⟨2, f_law_draw, []⟩), ("_law_pick", ⟨2, f_law_pick, []⟩)]) : FEk W P w K mg base 4 "_law_number" ⟨2, f_law_number, []⟩ := mkFE B (x := "_law_number") (i := 54) (N := ["draws", "size", "n", "d"]) (ps := ["draws", "size"]) (hint := []) (fns := [("_law_q", ⟨2, f_law_q, []⟩), ("_law_draw", ⟨2, f_law_draw, []⟩), ("_law_pick", ⟨2, f_law_pick, []⟩)]) (by decide +kernel) ⟨rfl, rfl, rfl, by decide +kernel, rfl, by decide +kernel, by decide +kernel⟩ h (fun _ _ _ _ _ _ us hl => match us, hl with | [_, _], _ => rfl) (fun q hq => by cases hq) e_law_number
theorem o_law_vector (B : Bs W P w K mg base) (h : AllF W P w K mg base 4 [("_law_pick", ⟨2, f_law_pick, []⟩), ("_law_number", ⟨2, f_law_number, []⟩)]) : FEk W P w K mg base 5 "_law_vector" ⟨3, f_law_vector, []⟩ := mkFE B (x := "_law_vector") (i := 55) (N := ["draws", "many", "size", "lap"]) (ps := ["draws", "many", "size"]) (hint := []) (fns := [("_law_pick", ⟨2, f_law_pick, []⟩), ("_law_number", ⟨2, f_law_number, []⟩)]) (by decide +kernel) ⟨rfl, rfl, rfl, by decide +kernel, rfl, by decide +kernel, by decide +kernel⟩ h (fun _ _ _ _ _ _ us hl => match us, hl with | [_, _, _], _ => rfl) (fun q hq => by cases hq) e_law_vector
theorem o_law_dot (B : Bs W P w K mg base) (h : AllF W P w K mg base 3 [("_law_sum", ⟨1, f_law_sum, []⟩), ("_law_times", ⟨2, f_law_times, []⟩)]) : FEk W P w K mg base 4 "_law_dot" ⟨2, f_law_dot, []⟩ := mkFE B (x := "_law_dot") (i := 56) (N := ["one", "other", "left", "right"]) (ps := ["one", "other"]) (hint := []) (fns := [("_law_sum", ⟨1, f_law_sum, []⟩), ("_law_times", ⟨2, f_law_times, []⟩)]) (by decide +kernel) ⟨rfl, rfl, rfl, by decide +kernel, rfl, by decide +kernel, by decide +kernel⟩ h (fun _ _ _ _ _ _ us hl => match us, hl with | [_, _], _ => rfl) (fun q hq => by cases hq) e_law_dot
theorem o_law_odd (B : Bs W P w K mg base) (h : AllF W P w K mg base 3 [("_law_pick", ⟨2, f_law_pick, []⟩)]) : FEk W P w K mg base 4 "_law_odd" ⟨1, f_law_odd, []⟩ := mkFE B (x := "_law_odd") (i := 57) (N := ["draws", "some"]) (ps := ["draws"]) (hint := []) (fns := [("_law_pick", ⟨2, f_law_pick, []⟩)]) (by decide +kernel) ⟨rfl, rfl, rfl, by decide +kernel, rfl, by decide +kernel, by decide +kernel⟩ h (fun _ _ _ _ _ _ us hl => match us, hl with | [_], _ => rfl) (fun q hq => by cases hq) e_law_odd
theorem o_law_ph_is_ratio (B : Bs W P w K mg base) (h : AllF W P w K mg base 1 [("_law_q", ⟨2, f_law_q, []⟩)]) : FEk W P w K mg base 2 "_law_ph_is_ratio" ⟨1, f_law_ph_is_ratio, []⟩ := mkFE B (x := "_law_ph_is_ratio") (i := 58) (N := ["value", "part"]) (ps := ["value"]) (hint := []) (fns := [("_law_q", ⟨2, f_law_q, []⟩)]) (by decide +kernel) ⟨rfl, rfl, rfl, by decide +kernel, rfl, by decide +kernel, by decide +kernel⟩ h (fun _ _ _ _ _ _ us hl => match us, hl with | [_], _ => rfl) (fun q hq => by cases hq) e_law_ph_is_ratio
theorem o_law_ph_is_vector (B : Bs W P w K mg base) (h : AllF W P w K mg base 2 [("_law_ph_is_ratio", ⟨1, f_law_ph_is_ratio, []⟩)]) : FEk W P w K mg base 3 "_law_ph_is_vector" ⟨2, f_law_ph_is_vector, []⟩ := mkFE B (x := "_law_ph_is_vector") (i := 59) (N := ["value", "n", "part"]) (ps := ["value", "n"]) (hint := []) (fns := [("_law_ph_is_ratio", ⟨1, f_law_ph_is_ratio, []⟩)]) (by decide +kernel) ⟨rfl, rfl, rfl, by decide +kernel, rfl, by decide +kernel, by decide +kernel⟩ h (fun _ _ _ _ _ _ us hl => match us, hl with | [_, _], _ => rfl) (fun q hq => by cases hq) e_law_ph_is_vector
theorem o_law_ph_keeps (B : Bs W P w K mg base) (h : AllF W P w K mg base 4 [("_law_less", ⟨2, f_law_less, []⟩), ("_law_dot", ⟨2, f_law_dot, []⟩)]) : FEk W P w K mg base 5 "_law_ph_keeps" ⟨2, f_law_ph_keeps, []⟩ := mkFE B (x := "_law_ph_keeps") (i := 60) (N := ["limits", "point", "row", "bound"]) (ps := ["limits", "point"]) (hint := []) (fns := [("_law_less", ⟨2, f_law_less, []⟩), ("_law_dot", ⟨2, f_law_dot, []⟩)]) (by decide +kernel) ⟨rfl, rfl, rfl, by decide +kernel, rfl, by decide +kernel, by decide +kernel⟩ h (fun _ _ _ _ _ _ us hl => match us, hl with | [_, _], _ => rfl) (fun q hq => by cases hq) e_law_ph_keeps
theorem o_law_ph_turned (B : Bs W P w K mg base) (h : AllF W P w K mg base 0 []) : FEk W P w K mg base 1 "_law_ph_turned" ⟨1, f_law_ph_turned, []⟩ := mkFE B (x := "_law_ph_turned") (i := 61) (N := ["row", "part"]) (ps := ["row"]) (hint := []) (fns := []) (by decide +kernel) ⟨rfl, rfl, rfl, by decide +kernel, rfl, by decide +kernel, by decide +kernel⟩ h (fun _ _ _ _ _ _ us hl => match us, hl with | [_], _ => rfl) (fun q hq => by cases hq) e_law_ph_turned
theorem o_law_ph_bent (B : Bs W P w K mg base) (h : AllF W P w K mg base 3 [("_law_draw", ⟨2, f_law_draw, []⟩), ("_law_ph_is_ratio", ⟨1, f_law_ph_is_ratio, []⟩), ("_law_pick", ⟨2, f_law_pick, []⟩), ("_law_plus", ⟨2, f_law_plus, []⟩), ("_law_minus", ⟨2, f_law_minus, []⟩)]) : ∀ n, FEk W P w K mg base (4 + n) "_law_ph_bent" ⟨2, f_law_ph_bent n, []⟩
  | 0 => mkF0 B (x := "_law_ph_bent") (i := 62) (N := ["draws", "value", "some", "at"]) (ps := ["draws", "value"]) (by decide +kernel) ⟨rfl, rfl, rfl, by decide +kernel, rfl, by decide +kernel, by decide +kernel⟩ (fun _ _ _ _ _ _ us hl => match us, hl with | [_, _], _ => rfl)
  | n + 1 => mkFE B (x := "_law_ph_bent") (i := 62) (N := ["draws", "value", "some", "at"]) (ps := ["draws", "value"]) (hint := []) (fns := ("_law_ph_bent", ⟨2, f_law_ph_bent n, []⟩) :: [("_law_draw", ⟨2, f_law_draw, []⟩), ("_law_ph_is_ratio", ⟨1, f_law_ph_is_ratio, []⟩), ("_law_pick", ⟨2, f_law_pick, []⟩), ("_law_plus", ⟨2, f_law_plus, []⟩), ("_law_minus", ⟨2, f_law_minus, []⟩)]) (by decide +kernel) ⟨rfl, rfl, rfl, by decide +kernel, rfl, by decide +kernel, by decide +kernel⟩ ⟨o_law_ph_bent B h n, allF_mono (by show 3 ≤ 4 + n; omega) h⟩ (fun _ _ _ _ _ _ us hl => match us, hl with | [_, _], _ => rfl) (fun q hq => by cases hq) (e_law_ph_bent n)
theorem o_law_ln_worths (B : Bs W P w K mg base) (h : AllF W P w K mg base 4 [("_law_plus", ⟨2, f_law_plus, []⟩), ("_law_dot", ⟨2, f_law_dot, []⟩)]) : FEk W P w K mg base 5 "_law_ln_worths" ⟨2, f_law_ln_worths, []⟩ := mkFE B (x := "_law_ln_worths") (i := 63) (N := ["lines", "point", "word", "f"]) (ps := ["lines", "point"]) (hint := []) (fns := [("_law_plus", ⟨2, f_law_plus, []⟩), ("_law_dot", ⟨2, f_law_dot, []⟩)]) (by decide +kernel) ⟨rfl, rfl, rfl, by decide +kernel, rfl, by decide +kernel, by decide +kernel⟩ h (fun _ _ _ _ _ _ us hl => match us, hl with | [_, _], _ => rfl) (fun q hq => by cases hq) e_law_ln_worths
theorem o_law_ln_chosen (B : Bs W P w K mg base) (h : AllF W P w K mg base 5 [("_law_ln_worths", ⟨2, f_law_ln_worths, []⟩), ("_law_less", ⟨2, f_law_less, []⟩)]) : FEk W P w K mg base 6 "_law_ln_chosen" ⟨2, f_law_ln_chosen, []⟩ := mkFE B (x := "_law_ln_chosen") (i := 64) (N := ["lines", "point", "worths", "at", "worth"]) (ps := ["lines", "point"]) (hint := []) (fns := [("_law_ln_worths", ⟨2, f_law_ln_worths, []⟩), ("_law_less", ⟨2, f_law_less, []⟩)]) (by decide +kernel) ⟨rfl, rfl, rfl, by decide +kernel, rfl, by decide +kernel, by decide +kernel⟩ h (fun _ _ _ _ _ _ us hl => match us, hl with | [_, _], _ => rfl) (fun q hq => by cases hq) e_law_ln_chosen
theorem o_law_ln_limits (B : Bs W P w K mg base) (h : AllF W P w K mg base 2 [("_law_minus", ⟨2, f_law_minus, []⟩)]) : FEk W P w K mg base 3 "_law_ln_limits" ⟨2, f_law_ln_limits, []⟩ := mkFE B (x := "_law_ln_limits") (i := 65) (N := ["lines", "word", "own", "other", "f", "found", "left", "right"]) (ps := ["lines", "word"]) (hint := [(212, 2)]) (fns := [("_law_minus", ⟨2, f_law_minus, []⟩)]) (by decide +kernel) ⟨rfl, rfl, rfl, by decide +kernel, rfl, by decide +kernel, by decide +kernel⟩ h (fun _ _ _ _ _ _ us hl => match us, hl with | [_, _], _ => rfl) (fun q hq => by cases hq) e_law_ln_limits
theorem o_law_is_word (B : Bs W P w K mg base) (h : AllF W P w K mg base 0 []) : FEk W P w K mg base 1 "_law_is_word" ⟨1, f_law_is_word, []⟩ := mkFE B (x := "_law_is_word") (i := 66) (N := ["value", "letter"]) (ps := ["value"]) (hint := []) (fns := []) (by decide +kernel) ⟨rfl, rfl, rfl, by decide +kernel, rfl, by decide +kernel, by decide +kernel⟩ h (fun _ _ _ _ _ _ us hl => match us, hl with | [_], _ => rfl) (fun q hq => by cases hq) e_law_is_word
theorem o_law_is_lines (B : Bs W P w K mg base) (h : AllF W P w K mg base 3 [("_law_ph_is_vector", ⟨2, f_law_ph_is_vector, []⟩), ("_law_is_word", ⟨1, f_law_is_word, []⟩)]) : FEk W P w K mg base 4 "_law_is_lines" ⟨1, f_law_is_lines, []⟩ := mkFE B (x := "_law_is_lines") (i := 67) (N := ["value", "rows", "row", "wide", "at"]) (ps := ["value"]) (hint := []) (fns := [("_law_ph_is_vector", ⟨2, f_law_ph_is_vector, []⟩), ("_law_is_word", ⟨1, f_law_is_word, []⟩)]) (by decide +kernel) ⟨rfl, rfl, rfl, by decide +kernel, rfl, by decide +kernel, by decide +kernel⟩ h (fun _ _ _ _ _ _ us hl => match us, hl with | [_], _ => rfl) (fun q hq => by cases hq) e_law_is_lines
theorem o_law_lines (B : Bs W P w K mg base) (h : AllF W P w K mg base 5 [("_law_words", ⟨2, f_law_words, []⟩), ("_law_pick", ⟨2, f_law_pick, []⟩), ("_law_draw", ⟨2, f_law_draw, []⟩), ("_law_vector", ⟨3, f_law_vector, []⟩), ("_law_ph_turned", ⟨1, f_law_ph_turned, []⟩), ("_law_minus", ⟨2, f_law_minus, []⟩)]) : FEk W P w K mg base 6 "_law_lines" ⟨1, f_law_lines, []⟩ := mkFE B (x := "_law_lines") (i := 68) (N := ["draws", "d", "words", "found", "size", "word", "some", "old", "f"]) (ps := ["draws"]) (hint := [(231, 2), (234, 1), (235, 1)]) (fns := [("_law_words", ⟨2, f_law_words, []⟩), ("_law_pick", ⟨2, f_law_pick, []⟩), ("_law_draw", ⟨2, f_law_draw, []⟩), ("_law_vector", ⟨3, f_law_vector, []⟩), ("_law_ph_turned", ⟨1, f_law_ph_turned, []⟩), ("_law_minus", ⟨2, f_law_minus, []⟩)]) (by decide +kernel) ⟨rfl, rfl, rfl, by decide +kernel, rfl, by decide +kernel, by decide +kernel⟩ h (fun _ _ _ _ _ _ us hl => match us, hl with | [_], _ => rfl) (fun q hq => by cases hq) e_law_lines
theorem o_law_near (B : Bs W P w K mg base) (h : AllF W P w K mg base 14 [("_law_pick", ⟨2, f_law_pick, []⟩), ("_law_odd", ⟨1, f_law_odd, []⟩), ("_law_ph_bent", ⟨2, f_law_ph_bent bentN, []⟩), ("_law_draw", ⟨2, f_law_draw, []⟩)]) : FEk W P w K mg base 15 "_law_near" ⟨2, f_law_near, []⟩ := mkFE B (x := "_law_near") (i := 69) (N := ["draws", "value", "rows", "wide", "f", "some", "word"]) (ps := ["draws", "value"]) (hint := []) (fns := [("_law_pick", ⟨2, f_law_pick, []⟩), ("_law_odd", ⟨1, f_law_odd, []⟩), ("_law_ph_bent", ⟨2, f_law_ph_bent bentN, []⟩), ("_law_draw", ⟨2, f_law_draw, []⟩)]) (by decide +kernel) ⟨rfl, rfl, rfl, by decide +kernel, rfl, by decide +kernel, by decide +kernel⟩ h (fun _ _ _ _ _ _ us hl => match us, hl with | [_, _], _ => rfl) (fun q hq => by cases hq) e_law_near
theorem o_law_meeting (B : Bs W P w K mg base) (h : AllF W P w K mg base 5 [("_law_plus", ⟨2, f_law_plus, []⟩), ("_law_vector", ⟨3, f_law_vector, []⟩), ("_law_dot", ⟨2, f_law_dot, []⟩), ("_law_minus", ⟨2, f_law_minus, []⟩), ("_law_pick", ⟨2, f_law_pick, []⟩), ("_law_draw", ⟨2, f_law_draw, []⟩), ("_law_over", ⟨2, f_law_over, []⟩)]) : FEk W P w K mg base 6 "_law_meeting" ⟨2, f_law_meeting, []⟩ := mkFE B (x := "_law_meeting") (i := 70) (N := ["draws", "lines", "d", "one", "other", "row", "point", "left", "right", "places", "at", "lead"]) (ps := ["draws", "lines"]) (hint := []) (fns := [("_law_plus", ⟨2, f_law_plus, []⟩), ("_law_vector", ⟨3, f_law_vector, []⟩), ("_law_dot", ⟨2, f_law_dot, []⟩), ("_law_minus", ⟨2, f_law_minus, []⟩), ("_law_pick", ⟨2, f_law_pick, []⟩), ("_law_draw", ⟨2, f_law_draw, []⟩), ("_law_over", ⟨2, f_law_over, []⟩)]) (by decide +kernel) ⟨rfl, rfl, rfl, by decide +kernel, rfl, by decide +kernel, by decide +kernel⟩ h (fun _ _ _ _ _ _ us hl => match us, hl with | [_, _], _ => rfl) (fun q hq => by cases hq) e_law_meeting
theorem o_law_points_right (B : Bs W P w K mg base) (h : AllF W P w K mg base 7 [("_law_meeting", ⟨2, f_law_meeting, []⟩), ("_law_ln_chosen", ⟨2, f_law_ln_chosen, []⟩), ("_law_same", ⟨2, f_law_same, []⟩), ("_law_ln_limits", ⟨2, f_law_ln_limits, []⟩), ("chosen", ⟨2, f_chosen, [(0, ["point", "lines"], [1, 0])]⟩), ("_law_ph_keeps", ⟨2, f_law_ph_keeps, []⟩), ("region", ⟨2, f_region, [(1, ["word"], [0, 1])]⟩)]) : FEk W P w K mg base 8 "_law_points_right" ⟨2, f_law_points_right, []⟩ := mkFE B (x := "_law_points_right") (i := 71) (N := ["draws", "lines", "d", "lap", "point", "due", "word", "f", "limits"]) (ps := ["draws", "lines"]) (hint := []) (fns := [("_law_meeting", ⟨2, f_law_meeting, []⟩), ("_law_ln_chosen", ⟨2, f_law_ln_chosen, []⟩), ("_law_same", ⟨2, f_law_same, []⟩), ("_law_ln_limits", ⟨2, f_law_ln_limits, []⟩), ("chosen", ⟨2, f_chosen, [(0, ["point", "lines"], [1, 0])]⟩), ("_law_ph_keeps", ⟨2, f_law_ph_keeps, []⟩), ("region", ⟨2, f_region, [(1, ["word"], [0, 1])]⟩)]) (by decide +kernel) ⟨rfl, rfl, rfl, by decide +kernel, rfl, by decide +kernel, by decide +kernel⟩ h (fun _ _ _ _ _ _ us hl => match us, hl with | [_, _], _ => rfl) (fun q hq => by cases hq) e_law_points_right
theorem o_law_refused (B : Bs W P w K mg base) (h : AllF W P w K mg base 7 [("_law_pick", ⟨2, f_law_pick, []⟩), ("_law_is_lines", ⟨1, f_law_is_lines, []⟩), ("region", ⟨2, f_region, [(1, ["word"], [0, 1])]⟩), ("chosen", ⟨2, f_chosen, [(0, ["point", "lines"], [1, 0])]⟩)]) : FEk W P w K mg base 10 "_law_refused" ⟨3, f_law_refused, []⟩ := mkFL B (i := 72) (N := ["draws", "lines", "near", "d", "words", "row", "point", "odd", "absent"]) (ps := ["draws", "lines", "near"]) (hint := []) (fns := [("_law_pick", ⟨2, f_law_pick, []⟩), ("_law_is_lines", ⟨1, f_law_is_lines, []⟩), ("region", ⟨2, f_region, [(1, ["word"], [0, 1])]⟩), ("chosen", ⟨2, f_chosen, [(0, ["point", "lines"], [1, 0])]⟩)]) (by decide +kernel) ⟨rfl, rfl, rfl, by decide +kernel, rfl, by decide +kernel, by decide +kernel⟩ h (fun _ _ _ _ _ _ us hl => match us, hl with | [_, _, _], _ => rfl) (fun q hq => by cases hq) e_law_refused
theorem all_defs (B : Bs W P w K mg base) : LawF W P w K mg base := by
  have h_law_draw := B.draw
  have h_is_whole : FEk W P w K mg base 1 "is_whole" ⟨1, f_is_whole, []⟩ := (o_is_whole B True.intro)
  have h_lowest : FEk W P w K mg base 1 "lowest" ⟨2, f_lowest, []⟩ := (o_lowest B True.intro)
  have h_is_less : FEk W P w K mg base 1 "is_less" ⟨2, f_is_less, []⟩ := (o_is_less B True.intro)
  have h_is_word : FEk W P w K mg base 1 "is_word" ⟨1, f_is_word, []⟩ := (o_is_word B True.intro)
  have h_places_of_lines : FEk W P w K mg base 1 "places_of_lines" ⟨1, f_places_of_lines, []⟩ := (o_places_of_lines B True.intro)
  have h_law_is_truth : FEk W P w K mg base 1 "_law_is_truth" ⟨2, f_law_is_truth, []⟩ := (o_law_is_truth B True.intro)
  have h_law_q : FEk W P w K mg base 1 "_law_q" ⟨2, f_law_q, []⟩ := (o_law_q B True.intro)
  have h_law_less : FEk W P w K mg base 1 "_law_less" ⟨2, f_law_less, []⟩ := (o_law_less B True.intro)
  have h_law_ph_turned : FEk W P w K mg base 1 "_law_ph_turned" ⟨1, f_law_ph_turned, []⟩ := (o_law_ph_turned B True.intro)
  have h_law_is_word : FEk W P w K mg base 1 "_law_is_word" ⟨1, f_law_is_word, []⟩ := (o_law_is_word B True.intro)
  have h_is_ratio : FEk W P w K mg base 2 "is_ratio" ⟨1, f_is_ratio, []⟩ := (o_is_ratio B ⟨(h_is_whole).mono (by decide), True.intro⟩)
  have h_plus : FEk W P w K mg base 2 "plus" ⟨2, f_plus, []⟩ := (o_plus B ⟨(h_lowest).mono (by decide), True.intro⟩)
  have h_minus : FEk W P w K mg base 2 "minus" ⟨2, f_minus, []⟩ := (o_minus B ⟨(h_lowest).mono (by decide), True.intro⟩)
  have h_times : FEk W P w K mg base 2 "times" ⟨2, f_times, []⟩ := (o_times B ⟨(h_lowest).mono (by decide), True.intro⟩)
  have h_greatest_of : FEk W P w K mg base 2 "greatest_of" ⟨1, f_greatest_of, []⟩ := (o_greatest_of B ⟨(h_is_less).mono (by decide), True.intro⟩)
  have h_need_line_word : FEk W P w K mg base 2 "need_line_word" ⟨2, f_need_line_word, []⟩ := (o_need_line_word B ⟨(h_is_word).mono (by decide), True.intro⟩)
  have h_law_same : FEk W P w K mg base 2 "_law_same" ⟨2, f_law_same, []⟩ := (o_law_same B ⟨(h_law_is_truth).mono (by decide), True.intro⟩)
  have h_law_plus : FEk W P w K mg base 2 "_law_plus" ⟨2, f_law_plus, []⟩ := (o_law_plus B ⟨(h_law_q).mono (by decide), True.intro⟩)
  have h_law_minus : FEk W P w K mg base 2 "_law_minus" ⟨2, f_law_minus, []⟩ := (o_law_minus B ⟨(h_law_q).mono (by decide), True.intro⟩)
  have h_law_times : FEk W P w K mg base 2 "_law_times" ⟨2, f_law_times, []⟩ := (o_law_times B ⟨(h_law_q).mono (by decide), True.intro⟩)
  have h_law_over : FEk W P w K mg base 2 "_law_over" ⟨2, f_law_over, []⟩ := (o_law_over B ⟨(h_law_q).mono (by decide), True.intro⟩)
  have h_law_ph_is_ratio : FEk W P w K mg base 2 "_law_ph_is_ratio" ⟨1, f_law_ph_is_ratio, []⟩ := (o_law_ph_is_ratio B ⟨(h_law_q).mono (by decide), True.intro⟩)
  have h_total : FEk W P w K mg base 3 "total" ⟨1, f_total, []⟩ := (o_total B ⟨(h_plus).mono (by decide), True.intro⟩)
  have h_is_vector : FEk W P w K mg base 3 "is_vector" ⟨1, f_is_vector, []⟩ := (o_is_vector B ⟨(h_is_ratio).mono (by decide), True.intro⟩)
  have h_apart : FEk W P w K mg base 3 "apart" ⟨2, f_apart, []⟩ := (o_apart B ⟨(h_minus).mono (by decide), True.intro⟩)
  have h_law_pick : FEk W P w K mg base 3 "_law_pick" ⟨2, f_law_pick, []⟩ := (o_law_pick B ⟨(h_law_draw).mono (by decide), True.intro⟩)
  have h_law_sum : FEk W P w K mg base 3 "_law_sum" ⟨1, f_law_sum, []⟩ := (o_law_sum B ⟨(h_law_plus).mono (by decide), True.intro⟩)
  have h_law_ph_is_vector : FEk W P w K mg base 3 "_law_ph_is_vector" ⟨2, f_law_ph_is_vector, []⟩ := (o_law_ph_is_vector B ⟨(h_law_ph_is_ratio).mono (by decide), True.intro⟩)
  have h_law_ln_limits : FEk W P w K mg base 3 "_law_ln_limits" ⟨2, f_law_ln_limits, []⟩ := (o_law_ln_limits B ⟨(h_law_minus).mono (by decide), True.intro⟩)
  have h_dot : FEk W P w K mg base 4 "dot" ⟨2, f_dot, []⟩ := (o_dot B ⟨(h_total).mono (by decide), (h_times).mono (by decide), True.intro⟩)
  have h_is_line : FEk W P w K mg base 4 "is_line" ⟨1, f_is_line, []⟩ := (o_is_line B ⟨(h_is_word).mono (by decide), (h_is_vector).mono (by decide), True.intro⟩)
  have h_limits_of : FEk W P w K mg base 4 "limits_of" ⟨2, f_limits_of, []⟩ := (o_limits_of B ⟨(h_apart).mono (by decide), (h_minus).mono (by decide), True.intro⟩)
  have h_law_words : FEk W P w K mg base 4 "_law_words" ⟨2, f_law_words, []⟩ := (o_law_words B ⟨(h_law_pick).mono (by decide), (h_law_draw).mono (by decide), True.intro⟩)
  have h_law_number : FEk W P w K mg base 4 "_law_number" ⟨2, f_law_number, []⟩ := (o_law_number B ⟨(h_law_q).mono (by decide), (h_law_draw).mono (by decide), (h_law_pick).mono (by decide), True.intro⟩)
  have h_law_dot : FEk W P w K mg base 4 "_law_dot" ⟨2, f_law_dot, []⟩ := (o_law_dot B ⟨(h_law_sum).mono (by decide), (h_law_times).mono (by decide), True.intro⟩)
  have h_law_odd : FEk W P w K mg base 4 "_law_odd" ⟨1, f_law_odd, []⟩ := (o_law_odd B ⟨(h_law_pick).mono (by decide), True.intro⟩)
  have h_law_is_lines : FEk W P w K mg base 4 "_law_is_lines" ⟨1, f_law_is_lines, []⟩ := (o_law_is_lines B ⟨(h_law_ph_is_vector).mono (by decide), (h_law_is_word).mono (by decide), True.intro⟩)
  have h_is_lines : FEk W P w K mg base 5 "is_lines" ⟨1, f_is_lines, [(0, ["value"], [0])]⟩ := (o_is_lines B ⟨(h_is_line).mono (by decide), True.intro⟩)
  have h_worth_of : FEk W P w K mg base 5 "worth_of" ⟨2, f_worth_of, []⟩ := (o_worth_of B ⟨(h_plus).mono (by decide), (h_dot).mono (by decide), True.intro⟩)
  have h_law_vector : FEk W P w K mg base 5 "_law_vector" ⟨3, f_law_vector, []⟩ := (o_law_vector B ⟨(h_law_pick).mono (by decide), (h_law_number).mono (by decide), True.intro⟩)
  have h_law_ph_keeps : FEk W P w K mg base 5 "_law_ph_keeps" ⟨2, f_law_ph_keeps, []⟩ := (o_law_ph_keeps B ⟨(h_law_less).mono (by decide), (h_law_dot).mono (by decide), True.intro⟩)
  have h_law_ln_worths : FEk W P w K mg base 5 "_law_ln_worths" ⟨2, f_law_ln_worths, []⟩ := (o_law_ln_worths B ⟨(h_law_plus).mono (by decide), (h_law_dot).mono (by decide), True.intro⟩)
  have h_need_lines : FEk W P w K mg base 6 "need_lines" ⟨1, f_need_lines, []⟩ := (o_need_lines B ⟨(h_is_lines).mono (by decide), True.intro⟩)
  have h_greatest_words : FEk W P w K mg base 6 "greatest_words" ⟨2, f_greatest_words, []⟩ := (o_greatest_words B ⟨(h_greatest_of).mono (by decide), (h_worth_of).mono (by decide), True.intro⟩)
  have h_law_ln_chosen : FEk W P w K mg base 6 "_law_ln_chosen" ⟨2, f_law_ln_chosen, []⟩ := (o_law_ln_chosen B ⟨(h_law_ln_worths).mono (by decide), (h_law_less).mono (by decide), True.intro⟩)
  have h_law_lines : FEk W P w K mg base 6 "_law_lines" ⟨1, f_law_lines, []⟩ := (o_law_lines B ⟨(h_law_words).mono (by decide), (h_law_pick).mono (by decide), (h_law_draw).mono (by decide), (h_law_vector).mono (by decide), (h_law_ph_turned).mono (by decide), (h_law_minus).mono (by decide), True.intro⟩)
  have h_law_meeting : FEk W P w K mg base 6 "_law_meeting" ⟨2, f_law_meeting, []⟩ := (o_law_meeting B ⟨(h_law_plus).mono (by decide), (h_law_vector).mono (by decide), (h_law_dot).mono (by decide), (h_law_minus).mono (by decide), (h_law_pick).mono (by decide), (h_law_draw).mono (by decide), (h_law_over).mono (by decide), True.intro⟩)
  have h_chosen : FEk W P w K mg base 7 "chosen" ⟨2, f_chosen, [(0, ["point", "lines"], [1, 0])]⟩ := (o_chosen B ⟨(h_need_lines).mono (by decide), (h_greatest_words).mono (by decide), (h_is_vector).mono (by decide), (h_places_of_lines).mono (by decide), True.intro⟩)
  have h_region : FEk W P w K mg base 7 "region" ⟨2, f_region, [(1, ["word"], [0, 1])]⟩ := (o_region B ⟨(h_need_lines).mono (by decide), (h_need_line_word).mono (by decide), (h_places_of_lines).mono (by decide), (h_limits_of).mono (by decide), True.intro⟩)
  have h_law_points_right : FEk W P w K mg base 8 "_law_points_right" ⟨2, f_law_points_right, []⟩ := (o_law_points_right B ⟨(h_law_meeting).mono (by decide), (h_law_ln_chosen).mono (by decide), (h_law_same).mono (by decide), (h_law_ln_limits).mono (by decide), (h_chosen).mono (by decide), (h_law_ph_keeps).mono (by decide), (h_region).mono (by decide), True.intro⟩)
  have h_law_refused : FEk W P w K mg base 10 "_law_refused" ⟨3, f_law_refused, []⟩ := (o_law_refused B ⟨(h_law_pick).mono (by decide), (h_law_is_lines).mono (by decide), (h_region).mono (by decide), (h_chosen).mono (by decide), True.intro⟩)
  have h_law_ph_bent : FEk W P w K mg base 14 "_law_ph_bent" ⟨2, f_law_ph_bent bentN, []⟩ := (o_law_ph_bent B ⟨(h_law_draw).mono (by decide), (h_law_ph_is_ratio).mono (by decide), (h_law_pick).mono (by decide), (h_law_plus).mono (by decide), (h_law_minus).mono (by decide), True.intro⟩ bentN)
  have h_law_near : FEk W P w K mg base 15 "_law_near" ⟨2, f_law_near, []⟩ := (o_law_near B ⟨(h_law_pick).mono (by decide), (h_law_odd).mono (by decide), (h_law_ph_bent).mono (by decide), (h_law_draw).mono (by decide), True.intro⟩)
  exact ⟨(h_law_lines).mono (by decide), (h_law_near).mono (by decide), (h_law_is_truth).mono (by decide), (h_law_points_right).mono (by decide), (h_law_refused).mono (by decide), (h_is_lines).mono (by decide), (h_law_is_lines).mono (by decide), True.intro⟩
end
end K90
end

-- text K10
section
set_option maxHeartbeats 4000000
set_option autoImplicit false
namespace K90
open PySem PySem.Spec L2 TL TP
open PyProof.Rows hiding St
/-! ### what the head says -/
section
variable {K : PySem.W.Frag} {h : Heap} {mg : Str → Option Value} {w : World}
theorem glo_in {x : Str} {i : Nat} (hx : (x, i) ∈ names) : He.Fa.glo x ∈ fa := by
  unfold fa
  simp only [List.mem_append]
  exact .inl (.inl (.inl (.inl (.inl (List.mem_map.mpr ⟨(x, i), hx, rfl⟩)))))
theorem exc_in {x : Str} (hx : x ∈ excs) : He.Fa.glo x ∈ fa ∧ He.Fa.exc x ∈ fa ∧ He.Fa.exm x "TeachError" true ∈ fa := by
  unfold fa
  simp only [List.mem_append]
  exact ⟨.inl (.inl (.inl (.inl (.inr (List.mem_map.mpr ⟨x, hx, rfl⟩))))), .inl (.inr (List.mem_map.mpr ⟨x, hx, rfl⟩)), .inr (List.mem_map.mpr ⟨x, hx, rfl⟩)⟩
theorem free_in {x : Str} (hx : x ∈ frees) : He.Fa.free x ∈ fa := by
  unfold fa
  simp only [List.mem_append]
  exact .inl (.inl (.inl (.inr (List.mem_map.mpr ⟨x, hx, rfl⟩))))
theorem val_in {f : He.Fa} (hf : f ∈ [He.Fa.int "MOST" 200, .int "MOST_LINES" 6, .int "MOST_PLACES" 3, .str "LETTERS" "abcdefghijklmnopqrstuvwxyz", .glo "ZERO"]) : f ∈ fa := by
  unfold fa
  simp only [List.mem_append]
  exact .inl (.inl (.inr hf))
theorem excCB_ok {D : Addr} (c : excCB K D = true) : ExcC K D ∧ PySem.W.kitOne K (.ref D) (.ref D) = some true := by
  unfold excCB at c
  simp only [Bool.and_eq_true, decide_eq_true_eq] at c
  obtain ⟨⟨⟨⟨⟨⟨⟨⟨c1, c2⟩, c3⟩, c4⟩, c5⟩, c6⟩, c7⟩, c8⟩, c9⟩ := c
  exact ⟨⟨c1, c2, c3, c4, c5, c6, c7, c8⟩, c9⟩
theorem gl_ok {W : Wd} {P : Program} {base : Heap} (X : K.In h) (G' : h.Ns mainGlobals mg) (c : He.SaysD fa fn K) (e : exB K = true) (hK : K = W.K) (k : Nat) (fns : List (Str × FnE)) (ha : AllF W P w K mg base k fns) : GlP W P w K mg base k (G fns) := by
  unfold exB at e
  simp only [Bool.and_eq_true] at e
  obtain ⟨⟨e1, e2⟩, e3⟩ := e
  refine ⟨fun x e h => ha.at_ x e h, fun x d hx => ?_, fun x hx => ?_, fun x hx => ?_, fun x i hx => ?_⟩
  · have hx : ([("ZERO", .tup [.int 0, .int 1]), ("MOST", .int 200), ("LETTERS", .str "abcdefghijklmnopqrstuvwxyz"), ("MOST_LINES", .int 6), ("MOST_PLACES", .int 3)] : List (Str × D)).lookup x = some d := hx
    simp only [List.lookup_cons] at hx
    split at hx
    · rename_i q
      have q : x = "ZERO" := by simpa using q
      subst q
      cases hx
      exact ⟨_, .ref (He.ga K "ZERO"), He.glo_ok X G' (c.facts (val_in (by simp))), rfl, fun F H => .tup (by rw [← hK]; exact He.tupB_ok (vs := [.int 0, .int 1]) e2 H) (by show 2 ≤ sizeLine; decide) (.cons (.int 0) (.cons (.int 1) .nil))⟩
    split at hx
    · rename_i q
      have q : x = "MOST" := by simpa using q
      subst q
      cases hx
      obtain ⟨t, e⟩ := He.int_ok X G' (c.facts (f := .int "MOST" 200) (val_in (by simp)))
      exact ⟨_, .int 200, e, ⟨t, rfl⟩, fun F H => .int 200⟩
    split at hx
    · rename_i q
      have q : x = "LETTERS" := by simpa using q
      subst q
      cases hx
      obtain ⟨t, e⟩ := He.str_ok X G' (c.facts (f := .str "LETTERS" "abcdefghijklmnopqrstuvwxyz") (val_in (by simp)))
      exact ⟨_, .str "abcdefghijklmnopqrstuvwxyz", e, ⟨t, rfl⟩, fun F H => .str _⟩
    split at hx
    · rename_i q
      have q : x = "MOST_LINES" := by simpa using q
      subst q
      cases hx
      obtain ⟨t, e⟩ := He.int_ok X G' (c.facts (f := .int "MOST_LINES" 6) (val_in (by simp)))
      exact ⟨_, .int 6, e, ⟨t, rfl⟩, fun F H => .int 6⟩
    split at hx
    · rename_i q
      have q : x = "MOST_PLACES" := by simpa using q
      subst q
      cases hx
      obtain ⟨t, e⟩ := He.int_ok X G' (c.facts (f := .int "MOST_PLACES" 3) (val_in (by simp)))
      exact ⟨_, .int 3, e, ⟨t, rfl⟩, fun F H => .int 3⟩
    · cases hx
  · have hx : x ∈ excs := by
      have hx : x ∈ exc0 := hx
      simp only [exc0, List.mem_cons, List.not_mem_nil, or_false] at hx
      unfold excs
      simp only [List.mem_cons, List.not_mem_nil, or_false]
      exact .inr hx
    obtain ⟨i1, i2, i3⟩ := exc_in hx
    obtain ⟨h1, h2, h3, h4⟩ := He.exc_ok (c.facts i2)
    exact ⟨He.ga K x, "ValueError", "ValueError.__new__", "ValueError.__init__", He.veBase, PySem.F.excBase_ValueError, h1, He.glo_ok X G' (c.facts i1), h2, h3, h4⟩
  · exact He.free_ok X G' (c.facts (free_in (by exact hx)))
  · have hx : ([(("gcd" : Str), "math.gcd")] : List (Str × String)).lookup x = some i := hx
    simp only [List.lookup_cons] at hx
    split at hx
    · rename_i q
      have q : x = "gcd" := by simpa using q
      subst q
      cases hx
      split at e3
      · rename_i i hi
        have hi2 : i = "math.gcd" := of_decide_eq_true e3
        rw [hi2] at hi
        exact PySem.W.mg_of X G' hi
      · cases e3
    · cases hx
theorem def_in {x : Str} {i : Nat} (hx : (x, i) ∈ names) : dD x i ∈ fn := List.mem_map.mpr ⟨(x, i), hx, rfl⟩
theorem fd_ok (X : K.In h) (G' : h.Ns mainGlobals mg) (c : He.SaysD fa fn K) (x : Str) (i : Nat) (hx : (x, i) ∈ names) : (∃ fd, FunD K x x (defArgs (top i)) (defBody (top i)) (defScope (top i)) [] [] (He.ga K x) fd) ∧ mg x = some (.ref (He.ga K x)) :=
  ⟨c.defs (def_in hx), He.glo_ok X G' (c.facts (glo_in hx))⟩
abbrev NC : List Str := ["action", "found", "error"]
abbrev scC : Scope := defScope (top 43)
theorem scopeC : FnScope NC ["action"] scC := ⟨rfl, rfl, rfl, by decide +kernel, rfl, by decide +kernel, by decide +kernel⟩
abbrev tabQ : Str := "_law_refused" ++ ".<locals>." ++ "<lambda>"
theorem cg_ok {W : Wd} {P : Program} {base : Heap} (X : K.In h) (G' : h.Ns mainGlobals mg) (c : He.SaysD fa fn K) (e : exB K = true) (hK : K = W.K) (hm : mg = W.mg) (hT : W.T = [((He.cT K ("_law_refused", none)).2, tabQ)])
    (tb : LamX.TabB base mg (He.cT K ("_law_refused", none)).1 (He.cT K ("_law_refused", none)).2) (gl : ∀ k fns, AllF W P w K mg base k fns → GlP W P w K mg base k (G fns))
    (oc : Value) (od : Option Addr) (osl : Array (Option Value)) (fd : FuncData) (lk : K.lookup (He.ga K "_law_refused") = some ⟨oc, od, .func fd, osl⟩) (k0 k : Nat) (fns : List (Str × FnE)) (hl : k0 + 2 ≤ k) (ha : AllF W P w K mg base k0 fns) :
    CgF (G fns) k0 "_law_caught" exc0 W P w K mg base k fd.code ("_law_refused" ++ ".<locals>.") := by
  obtain ⟨⟨fdR, FR⟩, _⟩ := fd_ok X G' c "_law_refused" 72 (by decide +kernel)
  obtain ⟨oc1, od1, dV1, kV1, doc1, pm1, an1, cdv1, ct1, osl1, e1, lk1, hcd1, _⟩ := FR.ex
  rw [lk] at lk1
  cases lk1
  obtain ⟨cc, hcc⟩ := He.codeIn_ref hcd1
  have hcode : fd.code = .ref (He.cT K ("_law_refused", none)).1 := by
    have e2 : fd.code = cdv1 := by rw [e1] <;> rfl
    have e3 : He.codeOf K ("_law_refused", none) = cc := He.codeOf_eq (p := ("_law_refused", none)) lk (e2.trans hcc)
    show fd.code = .ref (He.codeOf K ("_law_refused", none))
    rw [e3, e2, hcc]
  obtain ⟨⟨fdC, FC⟩, mC⟩ := fd_ok X G' c "_law_caught" 43 (by decide +kernel)
  have bC : L2.Binds K fdC ["action"] [] := FC.bindsN fun _ _ _ _ _ _ us hl => match us, hl with | [_], _ => rfl
  have kC := FC.kp
  obtain ⟨oc2, od2, dV2, kV2, doc2, pm2, an2, cdv2, ct2, osl2, e2, lk2, hcd2, _⟩ := FC.ex
  subst e2
  have t1 : ("TeachError" : Str) ∈ excs := by decide +kernel
  obtain ⟨i1, _, _⟩ := exc_in t1
  have mT := He.glo_ok X G' (c.facts i1)
  unfold exB at e
  simp only [Bool.and_eq_true] at e
  refine ⟨hl, gl k0 fns ha, He.free_ok X G' (c.facts (free_in (by decide +kernel))), ⟨_, _, hcode, tb, by rw [hT]; exact List.mem_singleton.mpr rfl, fun p hp _ => by rw [hT] at hp; rw [List.mem_singleton.mp hp]⟩,
    He.ga K "_law_caught", He.ga K "TeachError", "action", "found", "error", defArgs (top 43), defBody (top 43), scC, dV2, kV2, doc2, pm2, cdv2, ct2, oc2, an2, od2, osl2, mC, kC, lk2, hcd2, bC, scopeC, .inl rfl, by decide, by decide, fun Y q hY => ?_, fun x hx => ?_⟩
  · exact keep_gives (q6 := ⟨0, 0, 0, 0⟩) rfl rfl rfl rfl (by rw [hY]; exact mT) (by decide) scopeC.nd (by decide) (by decide) (by decide) (by decide)
  · have hx2 : x ∈ excs := by
      simp only [exc0, List.mem_cons, List.not_mem_nil, or_false] at hx
      unfold excs
      simp only [List.mem_cons, List.not_mem_nil, or_false]
      exact .inr hx
    obtain ⟨j1, j2, j3⟩ := exc_in hx2
    obtain ⟨x1, x2⟩ := excCB_ok (List.all_eq_true.mp e.1.1 x hx2)
    exact ⟨He.ga K x, He.glo_ok X G' (c.facts j1), x1, x2, He.exm_ok (c.facts j3)⟩
theorem bs_ok {W : Wd} {P : Program} {base : Heap} (X : K.In h) (G' : h.Ns mainGlobals mg) (c : He.SaysD fa fn K) (e : exB K = true) (hK : K = W.K) (hm : mg = W.mg) (hT : W.T = [((He.cT K ("_law_refused", none)).2, tabQ)])
    (tb : LamX.TabB base mg (He.cT K ("_law_refused", none)).1 (He.cT K ("_law_refused", none)).2) : Bs W P w K mg base := by
  have gl := fun k fns ha => gl_ok (W := W) (P := P) (base := base) (w := w) X G' c e hK k fns ha
  have mi : mg "int" = none := He.free_ok X G' (c.facts (free_in (by decide +kernel)))
  obtain ⟨⟨fdB, FB⟩, mB⟩ := fd_ok X G' c "_law_blended" 40 (by decide +kernel)
  obtain ⟨⟨fdD, FD⟩, mD⟩ := fd_ok X G' c "_law_draw" 41 (by decide +kernel)
  have bB : L2.Binds K fdB ["state"] [] := FB.bindsN fun _ _ _ _ _ _ us hl => match us, hl with | [_], _ => rfl
  have oB := ok_blended (W := W) (P := P) (w := w) (mg := mg) (base := base) (k := 0) FB hK mi
  have oD := ok_draw (W := W) (P := P) (w := w) (mg := mg) (base := base) (k := 1) FD hK mi oB mB FB.kp bB
  exact ⟨hK, hm, fd_ok X G' c, gl, ⟨_, fdD, _, 2, Nat.le_refl _, oD, mD, FD.kp, FD.bindsN fun _ _ _ _ _ _ us hl => match us, hl with | [_, _], _ => rfl, fun q hq => by cases hq⟩, fun oc od osl fd lk k0 k fns hl ha => cg_ok X G' c e hK hm hT tb gl oc od osl fd lk k0 k fns hl ha⟩
end
end K90
end

-- text K11
section
set_option maxHeartbeats 4000000
set_option autoImplicit false
namespace K90
open PySem PySem.Spec L2 TL TP
open PyProof.Rows hiding St
/-! ### the law -/
abbrev NL : List Str := ["script", "draws", "turn", "lines", "near"]
abbrev scL : Scope := defScope (top 73)
theorem scopeL : FnScope NL ["script"] scL := ⟨rfl, rfl, rfl, by decide +kernel, rfl, by decide +kernel, by decide +kernel⟩
abbrev csL : Cs := ⟨NL, scL, none, [], false⟩
noncomputable def lawRest : Ev → Mo (Fl × Ev) := blS (G lawFns) (cmp (G lawFns) hkN 24) csL 6 ((defBody (top 73)).drop 1)
noncomputable def lapB : Ev → Mo (Fl × Ev) := (seqM (sSet 3 (callE (runN 1 f_law_lines) (eCons (eV 1) eNil))) (seqM (sSet 4 (callE (runN 2 f_law_near) (eCons (eV 1) (eCons (eV 3) eNil)))) (seqM (iteM (tOr (notT (truT (callE (runN 2 f_law_is_truth) (eCons (callE (runN 1 f_is_lines) (eCons (eV 3) eNil)) (eCons (eC (.bl true)) eNil))))) (notT (truT (callE (runN 2 f_law_is_truth) (eCons (kw0E 1 [0] f_is_lines (eCons (eV 4) eNil)) (eCons (callE (runN 1 f_law_is_lines) (eCons (eV 4) eNil)) eNil)))))) (seqM (sRt (eC (.bl false))) sNx) sNx) (seqM (iteM (tOr (notT (truT (callE (runN 2 f_law_points_right) (eCons (eV 1) (eCons (eV 3) eNil))))) (notT (truT (callE (runN 3 f_law_refused) (eCons (eV 1) (eCons (eV 3) (eCons (eV 4) eNil))))))) (seqM (sRt (eC (.bl false))) sNx) sNx) sNx))))
noncomputable def lawB : Ev → Mo (Fl × Ev) := seqM (sFor (asgN 2) (rngI 1 (eCons (eO addD (eC (.int 10)) (callE min2D (eCons (callE lenD (eCons (eV 0) eNil)) (eCons (eC (.int 8)) eNil)))) eNil)) lapB) (seqM (sRt (eC (.bl true))) sNx)
theorem c_law : lawRest = lawB := by kernel_rfl
/-- THE CLAIM over data -/
def Claim : Prop := ∀ (ns : List Int) (a ag ac : Addr), ns.length ≤ 63 → ∃ env' g', lawB [.dat (.scr ns), .dat (.ptr a), .un, .un, .un] (some (beganT a ag ac ns)) = .ok (.ret (.bl true), env') g'
def spLaw (W : Wd) : Sp := fun vs H Q _ => ∃ (a : Addr) (ns : List Int), vs = [.ref a] ∧ ns.length ≤ 63 ∧ SqL W.K H a (ns.map V.int) ∧ LamX.Tabs W.T H ∧ ∀ H', Q (.bl true) H'
section
variable {W : Wd} {P : Program} {w : World} {K : PySem.W.Frag} {mg : Str → Option Value} {base : Heap}
theorem ok_law (cl : Claim) (B : Bs W P w K mg base) (ha : mg "abs" = none) {f : Addr} {fd : FuncData} (Fd : FunD K "law" "law" (defArgs (top 73)) (defBody (top 73)) scL [] [] f fd) : FnOk P w K mg base (L2.CX P w) 16 f fd ["script"] (spLaw W) := by
  have lf := all_defs B
  obtain ⟨⟨fdB, FB⟩, mB⟩ := B.fd "_law_begun" 39 (by decide +kernel)
  have bB : L2.Binds K fdB ["script"] [] := FB.bindsN fun _ _ _ _ _ _ us hl => match us, hl with | [_], _ => rfl
  have oB := ok_begun (W := W) (P := P) (w := w) (mg := mg) (base := base) (k := 14) FB B.hK B.hm ha
  refine Fd.ok (k := 15) scopeL (fun vs H Q E h => ?_) (fun cdv A outer s H vs Q E hr h => ?_)
  · obtain ⟨a, ns, rfl, _⟩ := h
    rfl
  · obtain ⟨sa, ns, rfl, hz, hS, hT, q⟩ := h
    have so : StOk W (G lawFns) 15 E (cxOf (L2.CX P w) P w K mg base NL "law" scL f cdv A outer s H E) csL := st_ok B.hK B.hm scopeL (B.gl 15 lawFns lf) hr (fun e => by cases e)
    have sn : Snd (G lawFns) W 15 (cmp (G lawFns) hkN 24) := cmp_ok hkN_ok 24
    have p2 : PSs (cxOf (L2.CX P w) P w K mg base NL "law" scL f cdv A outer s H E) ((defBody (top 73)).drop 1) (tS W E lawRest) := blS_ok sn so 6 _
    refine ⟨_, (show PSs (cxOf (L2.CX P w) P w K mg base NL "law" scL f cdv A outer s H E) (defBody (top 73)) _ from pss_cons (ps_set (i := 1) scopeL.nd rfl (Or.inl rfl) (pe_call oB hr rfl mB FB.kp bB .nil so.ps (pa_cons (pv 0) pa_nil)) rfl (Or.inl rfl)) p2), ?_⟩
    refine ⟨.ref sa, rfl, sa, ns, rfl, hS, by omega, hT, fun a ag ac H' kp tb n1 n2 n3 h1 h2 h3 h4 => ?_⟩
    have keep : Rd H sa (.lst (ns.map V.int)) → Rd H' sa (.lst (ns.map V.int)) := fun r => by
      rcases r with r | ⟨o, r⟩
      · exact .inl (kp _ _ r (fun _ z => by cases z))
      · exact .inr ⟨o, kp _ _ r (fun _ z => by cases z)⟩
    have some_ : Rd H sa (.lst (ns.map V.int)) → ∃ o, H sa = some o := fun r => by
      rcases r with r | ⟨o, r⟩ <;> exact ⟨_, r⟩
    have w0 : Wf W (fun b => b = sa ∧ Rd H sa (.lst (ns.map V.int))) (some (beganT a ag ac ns)) H' := by
      refine ⟨fun b f => ?_, fun b f m => ?_, ⟨h1, h2, h3, h4⟩, tb⟩
      · obtain ⟨rfl, f⟩ := f
        rcases keep f with r | ⟨o, r⟩ <;> exact ⟨_, r⟩
      · obtain ⟨t, e, m⟩ := m
        cases e
        obtain ⟨rfl, f⟩ := f
        obtain ⟨o, ho⟩ := some_ f
        rcases m with m | m | m
        · rw [m] at ho
          rw [show H (beganT a ag ac ns).a = none from n1] at ho
          cases ho
        · rw [m] at ho
          rw [show H (beganT a ag ac ns).ag = none from n2] at ho
          cases ho
        · rw [m] at ho
          rw [show H (beganT a ag ac ns).ac = none from n3] at ho
          cases ho
    have rs : Rep W (fun b => b = sa ∧ Rd H sa (.lst (ns.map V.int))) H' (.ref sa) (.scr ns) := .scr (by
      rcases hS with hS | hS
      · exact .inl ⟨⟨rfl, hS⟩, keep hS⟩
      · exact .inr (.inr hS)) (Nat.le_trans hz (by decide))
    have s0 := ss_start (N := NL) w0 (.cons rs .nil) (by show 1 ≤ 5; decide)
    have s1 := s0.set (i := 1) (.ptr a)
    refine ⟨_, _, some (beganT a ag ac ns), _, s1, ?_⟩
    obtain ⟨env', g', ev⟩ := cl ns a ag ac hz
    rw [c_law]
    have ev2 : lawB ((envOf NL.length [.scr ns]).set 1 (.dat (.ptr a))) (some (beganT a ag ac ns)) = .ok (.ret (.bl true), env') g' := ev
    rw [ev2]
    intro F2 H2 x2 v rv
    cases rv
    exact q H2
end
end K90
end

-- text K12
section
set_option maxHeartbeats 0
set_option autoImplicit false
namespace K90
open PySem PySem.Spec L2 TL
open PyProof.Rows hiding St
theorem law_at (cl : Claim) (w : World) (mg : Str → Option Value) (fa' : Addr) (h : Heap) (Y : hkH.says w h) (G' : h.Ns mainGlobals mg) (hf : mg "law" = some (.ref fa')) :
    ∃ K : PySem.W.Frag, K.In h ∧ LamX.LawAtS PySem.Challenge.rw_taughtloss_k90_lines_and_what_they_choos w K (L2.CX (PySem.Challenge.rw_taughtloss_k90_lines_and_what_they_choos).prog w) 16 63 "script" mg fa' h := by
  obtain ⟨K, X, c⟩ := Y
  refine ⟨K, X, ?_⟩
  have cd := c.t.d
  obtain ⟨⟨fd, Fd⟩, hm0⟩ := fd_ok X G' cd "law" 73 (by decide +kernel)
  rw [hf] at hm0
  cases hm0
  have pin : (("_law_refused", none) : He.Defn) ∈ tf := List.mem_singleton.mpr rfl
  refine ⟨fd, [He.cT K ("_law_refused", none)], spLaw ⟨K, mg, [((He.cT K ("_law_refused", none)).2, tabQ)]⟩, fun p hp => ?_, fun p hp => ?_, fun p hp => ?_, fun s u => ?_, fun H a ns hl _ hH hS => ?_, fun base kb nb tb => ?_⟩
  · rw [List.mem_singleton.mp hp]
    exact c.empty _ pin
  · rw [List.mem_singleton.mp hp]
    exact c.out _ pin
  · rw [List.mem_singleton.mp hp]
    exact PySem.W.codeHd_of_K X (c.hd _ pin)
  · exact Fd.bindsA (ps := ["script"]) (fun _ _ _ _ _ _ us hl => match us, hl with | [_], _ => rfl) s [u] rfl
  · refine ⟨a, ns, rfl, hl, hS, fun p hp => ?_, fun H' => rfl⟩
    rw [List.mem_singleton.mp hp]
    exact LamX.TabS.nil (hH _ (List.mem_singleton.mpr rfl))
  · have B : Bs ⟨K, mg, [((He.cT K ("_law_refused", none)).2, tabQ)]⟩ (PySem.Challenge.rw_taughtloss_k90_lines_and_what_they_choos).prog w K mg base := bs_ok X G' cd c.more rfl rfl rfl (tb _ (List.mem_singleton.mpr rfl))
    exact ok_law cl B (He.free_ok X G' (cd.facts (free_in (by decide +kernel)))) Fd
end K90
open PySem PySem.W PySem.Calls PyProof.Rows
theorem K90.all (cl : K90.Claim) : PySem.Challenge.rw_taughtloss_k90_lines_and_what_they_choos.Holds := by
  w_on; o_law
  refine HandSHeadRun.head_imp (r := OpenLaw.row PySem.Challenge.rw_taughtloss_k90_lines_and_what_they_choos) (q := K90.qv) (H := K90.hkH) (ob := K90.ob) (M := 4000) (loose := K90.lo) (d := HandSHeadRun.topDef (OpenLaw.row PySem.Challenge.rw_taughtloss_k90_lines_and_what_they_choos).prog 73) (kwd := []) K90.ob_eq
    K90.run (by kernel_rfl) (by kernel_rfl) (by kernel_rfl) (by rfl) (by first | assumption | decide +kernel) (by decide +kernel) ⟨rfl, rfl, rfl, rfl, rfl, by decide +kernel⟩ ?hw ?hc
  case hw => w_witness2
  case hc =>
    refine LamX.walk_ofTsE (l := PySem.Challenge.rw_taughtloss_k90_lines_and_what_they_choos) (n := 63) (k := 16) (x := "script") (CX := fun w => L2.CX (PySem.Challenge.rw_taughtloss_k90_lines_and_what_they_choos).prog w) rfl (by decide) (by kernel_rfl) ⟨rfl, by decide, by decide⟩ ?F (fun w H s e s' z => ?z)
    case F =>
      intro w mg fa h Y G' hm
      have hmg : mg ("law" : PySem.Str) = some (.ref fa) := by
        have e : (HandSHeadRun.topDef (OpenLaw.row PySem.Challenge.rw_taughtloss_k90_lines_and_what_they_choos).prog 73).name = ("law" : PySem.Str) := by kernel_rfl
        rw [← e]
        exact hm
      exact K90.law_at cl w mg fa h Y G' hmg
    case z =>
      obtain ⟨_, _, _, _, _, _, _, _, _, _, _, _, q⟩ := z
      exact q
end

-- text TpT
section
set_option maxHeartbeats 4000000
set_option autoImplicit false
namespace TP
open PySem PySem.Spec L2 TL
/-! ### draws by triples -/
/-- the draws at a, in good order -/
structure Ok1 (a : Addr) (t : Drw) : Prop where
  a : t.a = a
  cl : t.cells.length < 64
  g : t.great.length ≤ 1000
  r0 : 0 ≤ t.rest
  gr : ∀ x, x ∈ t.great → 0 ≤ x
  t0 : 0 ≤ t.turn
abbrev TOP : Nat := 2 ^ 200
/-- m, with at most n turns more, gives a value that P -/
def Tr {α : Type} (a : Addr) (n : Nat) (m : Mo α) (P : α → Prop) : Prop :=
  ∀ t, Ok1 a t → t.turn + n < TOP → ∃ v t', m (some t) = .ok v (some t') ∧ Ok1 a t' ∧ t'.turn ≤ t.turn + n ∧ P v
section
variable {α β : Type} {a : Addr} {n n1 n2 : Nat} {P : α → Prop}
theorem Tr.pure {v : α} (h : P v) : Tr a n (Pure.pure v) P := fun t ok _ => ⟨v, t, rfl, ok, by omega, h⟩
theorem Tr.eq {m m' : Mo α} (e : m = m') (h : Tr a n m' P) : Tr a n m P := e ▸ h
theorem Tr.mono {m : Mo α} {Q : α → Prop} (h : Tr a n1 m P) (hn : n1 ≤ n2) (hq : ∀ v, P v → Q v) : Tr a n2 m Q := fun t ok b => by
  obtain ⟨v, t', e, ok', l, p⟩ := h t ok (by omega)
  exact ⟨v, t', e, ok', by omega, hq v p⟩
theorem bind_at {m : Mo α} {k : α → Mo β} {g g' : G} {v : α} (e : m g = .ok v g') : (m >>= k) g = k v g' := by
  show (match m g with
    | .ok a g' => k a g'
    | .exc c g' => .exc c g'
    | .stuck => .stuck) = _
  rw [e]
theorem Tr.bind {m : Mo α} {k : α → Mo β} {Q : β → Prop} (h : Tr a n1 m P) (hk : ∀ v, P v → Tr a n2 (k v) Q) : Tr a (n1 + n2) (m >>= k) Q := fun t ok b => by
  obtain ⟨v, t', e, ok', l, p⟩ := h t ok (by omega)
  obtain ⟨w, t2, e2, ok2, l2, q⟩ := hk v p t' ok' (by omega)
  exact ⟨w, t2, by rw [bind_at e, e2], ok2, by omega, q⟩
theorem Tr.nox {m : Mo α} (h : Tr a n m P) : Tr a n (TL.nox m) P := fun t ok b => by
  obtain ⟨v, t', e, ok', l, p⟩ := h t ok b
  refine ⟨v, t', ?_, ok', l, p⟩
  unfold TL.nox
  rw [e]
/-- a comprehension whose items draw -/
theorem Tr.comp {one : D → Mo (Option D)} {P : D → Prop} : ∀ {ds : List D}, (∀ d, d ∈ ds → Tr a n (one d) fun o => ∃ y, o = some y ∧ P y) → Tr a (ds.length * n) (compGo one ds) fun ys => ys.length = ds.length ∧ ∀ y, y ∈ ys → P y
  | [], _ => (Tr.pure ⟨rfl, fun y h => by cases h⟩)
  | d :: ds, h => by
    have h1 := h d (List.mem_cons_self ..)
    have h2 := Tr.comp (ds := ds) fun d' hd => h d' (List.mem_cons_of_mem _ hd)
    have h3 : Tr a (n + (ds.length * n + 0)) (compGo one (d :: ds)) fun ys => ys.length = (d :: ds).length ∧ ∀ y, y ∈ ys → P y := by
      refine Tr.bind h1 fun o ⟨y, e, p⟩ => Tr.bind h2 fun ys ⟨e2, q⟩ => ?_
      subst e
      refine Tr.pure ⟨by rw [List.length_cons, List.length_cons, e2], fun z hz => ?_⟩
      rcases List.mem_cons.mp hz with rfl | hz
      · exact p
      · exact q z hz
    exact h3.mono (by rw [List.length_cons, Nat.succ_mul]; omega) fun _ h => h
/-- a loop by an invariant -/
theorem Tr.for_ {ft : D → Ev → Option Ev} {body : Ev → Mo (Fl × Ev)} : ∀ {ds : List D} {I : Nat → Ev → Prop}, (∀ i d env, ds[i]? = some d → I i env → ∃ env1, ft d env = some env1 ∧ Tr a n (body env1) fun r => r.1 = .nx ∧ I (i + 1) r.2) → ∀ env, I 0 env → Tr a (ds.length * n) (forGo ft body ds env) fun r => r.1 = .nx ∧ I ds.length r.2
  | [], I, _, env, h => Tr.pure ⟨rfl, h⟩
  | d :: ds, I, st, env, h => by
    obtain ⟨e1, h1, h2⟩ := st 0 d env rfl h
    have h3 : Tr a (n + ds.length * n) (forGo ft body (d :: ds) env) fun r => r.1 = .nx ∧ I (d :: ds).length r.2 := by
      have e : forGo ft body (d :: ds) env = (body e1 >>= fun r => match r with
        | (.nx, env2) => forGo ft body ds env2
        | (.ct, env2) => forGo ft body ds env2
        | (.bk, env2) => Pure.pure (.nx, env2)
        | (.ret d, env2) => Pure.pure (.ret d, env2)) := by
        show (Mo.of (ft d env) >>= fun env1 => body env1 >>= fun r => match r with
          | (.nx, env2) => forGo ft body ds env2
          | (.ct, env2) => forGo ft body ds env2
          | (.bk, env2) => Pure.pure (.nx, env2)
          | (.ret d, env2) => Pure.pure (.ret d, env2)) = _
        rw [h1] <;> rfl
      rw [e]
      refine Tr.bind h2 fun r ⟨q1, q2⟩ => ?_
      obtain ⟨fl, env2⟩ := r
      dsimp only at q1 q2
      subst q1
      exact Tr.for_ (I := fun i => I (i + 1)) (fun i d env hd hi => st (i + 1) d env (by simpa using hd) hi) env2 q2
    exact h3.mono (by rw [List.length_cons, Nat.succ_mul]; omega) fun _ h => h
end
/-! ### one draw -/
theorem blendV_nonneg (turn : Int) (cells : List Int) : 0 ≤ blendV turn cells := by
  show 0 ≤ ((0 * 2147483647 + hash1 turn cells 2147483579 ^ 5 % 2147483579) * 2147483647 + hash1 turn cells 2147483629 ^ 5 % 2147483629) * 2147483647 + hash1 turn cells 2147483563 ^ 5 % 2147483563
  have h1 := Int.emod_nonneg (hash1 turn cells 2147483579 ^ 5) (b := 2147483579) (by decide)
  have h2 := Int.emod_nonneg (hash1 turn cells 2147483629 ^ 5) (b := 2147483629) (by decide)
  have h3 := Int.emod_nonneg (hash1 turn cells 2147483563 ^ 5) (b := 2147483563) (by decide)
  omega
theorem loaded_ok {a : Addr} {t : Drw} (h : Ok1 a t) : Ok1 a (loaded t) ∧ (loaded t).turn ≤ t.turn + 1 := by
  unfold loaded
  by_cases c : t.rest = 0
  · rw [if_pos c]
    cases e : t.great with
    | nil => exact ⟨⟨h.a, h.cl, by show t.great.length ≤ 1000; exact h.g, blendV_nonneg _ _, h.gr, by show 0 ≤ t.turn + 1; have := h.t0; omega⟩, by show t.turn + 1 ≤ _; omega⟩
    | cons x r =>
      have hg := h.g
      rw [e, List.length_cons] at hg
      exact ⟨⟨h.a, h.cl, by show r.length ≤ 1000; omega, h.gr x (by rw [e]; exact List.mem_cons_self ..), fun y hy => h.gr y (by rw [e]; exact List.mem_cons_of_mem _ hy), h.t0⟩, by show t.turn ≤ _; omega⟩
  · rw [if_neg c]
    exact ⟨h, by omega⟩
theorem okT_of {a : Addr} {t : Drw} (h : Ok1 a t) (b : t.turn + 1 < TOP) : okT t = true := by
  unfold okT
  have h1 := h.cl
  have h2 := h.g
  have h3 := h.t0
  have h4 : (t.turn.natAbs : Int) < ((2 ^ 200 : Nat) : Int) := by
    rw [Int.natAbs_of_nonneg h3]
    show t.turn < (TOP : Nat)
    omega
  simp only [Bool.and_eq_true, decide_eq_true_eq]
  exact ⟨⟨⟨h2, by omega⟩, h3⟩, by exact_mod_cast h4⟩
theorem drawn_ok {a : Addr} {t : Drw} {room : Int} (h : Ok1 a t) (h0 : 0 < room) : Ok1 a (drawnT room t) ∧ (drawnT room t).turn ≤ t.turn + 1 := by
  obtain ⟨h1, h2⟩ := loaded_ok h
  exact ⟨⟨h1.a, h1.cl, h1.g, Int.ediv_nonneg h1.r0 (by omega), h1.gr, h1.t0⟩, h2⟩
theorem draw_at {a : Addr} {t : Drw} {room : Int} (h : Ok1 a t) (b : t.turn + 1 < TOP) (h0 : 0 < room) (h1 : room < 2 ^ 60) : drawF [.ptr a, .int room] (some t) = Res.ok (D.int ((loaded t).rest % room)) (some (drawnT room t)) := by
  show (if a = t.a ∧ okT t = true ∧ 0 < room ∧ Sml room then Res.ok (D.int ((loaded t).rest % room)) (some (drawnT room t)) else .stuck) = _
  rw [if_pos ⟨h.a.symm, okT_of h b, h0, h1⟩]
theorem Tr.draw {a : Addr} {room : Int} (h0 : 0 < room) (h1 : room < 2 ^ 60) : Tr a 1 (drawF [.ptr a, .int room]) fun d => ∃ i, d = .int i ∧ 0 ≤ i ∧ i < room := fun t ok b => by
  obtain ⟨h2, h3⟩ := drawn_ok ok h0
  exact ⟨_, _, draw_at ok b h0 h1, h2, h3, _, rfl, Int.emod_nonneg _ (by omega), Int.emod_lt_of_pos _ h0⟩
end TP
end

-- text K20
section
set_option maxHeartbeats 4000000
set_option autoImplicit false
namespace TP
open PySem PySem.Spec L2 TL
/-! ### ratios -/
abbrev dQ (q : Rat) : D := .tup [.int q.num, .int (q.den : Int)]
/-- size: both parts below 2 ^ b -/
def sm (b : Nat) (q : Rat) : Prop := q.num.natAbs < 2 ^ b ∧ q.den < 2 ^ b
theorem low_parts (n d : Int) (hd : d ≠ 0) (s : Int) (hs : s = if 0 < d then (Nat.gcd n.natAbs d.natAbs : Int) else -(Nat.gcd n.natAbs d.natAbs : Int)) : n.fdiv s = (Rat.divInt n d).num ∧ d.fdiv s = ((Rat.divInt n d).den : Int) := by
  have hg0 : 0 < Nat.gcd n.natAbs d.natAbs := Nat.gcd_pos_of_pos_right _ (by omega)
  obtain ⟨m, hm⟩ : ((Nat.gcd n.natAbs d.natAbs : Nat) : Int) ∣ n := Int.gcd_dvd_left n d
  obtain ⟨e, he⟩ : ((Nat.gcd n.natAbs d.natAbs : Nat) : Int) ∣ d := Int.gcd_dvd_right n d
  have hgc : (d.gcd n) = Nat.gcd n.natAbs d.natAbs := by rw [Int.gcd_comm]; rfl
  have q1 : (Rat.divInt n d).num = d.sign * m := by
    rw [Rat.num_divInt, hgc]
    conv => lhs; arg 1; rw [hm]
    rw [show d.sign * (((Nat.gcd n.natAbs d.natAbs : Nat) : Int) * m) = ((Nat.gcd n.natAbs d.natAbs : Nat) : Int) * (d.sign * m) by rw [← Int.mul_assoc, Int.mul_comm d.sign, Int.mul_assoc]]
    exact Int.mul_ediv_cancel_left _ (by omega)
  have q2 : ((Rat.divInt n d).den : Int) = d.sign * e := by
    rw [Rat.den_divInt, if_neg hd, hgc]
    have h1 : ((d.natAbs / Nat.gcd n.natAbs d.natAbs : Nat) : Int) = (d.natAbs : Int) / (Nat.gcd n.natAbs d.natAbs : Nat) := Int.natCast_ediv ..
    rw [h1]
    have h2 : (d.natAbs : Int) = ((Nat.gcd n.natAbs d.natAbs : Nat) : Int) * (d.sign * e) := by
      have h3 : (d.natAbs : Int) = d.sign * d := by
        rcases Int.lt_or_gt_of_ne hd with c | c
        · rw [Int.sign_eq_neg_one_of_neg c]; omega
        · rw [Int.sign_eq_one_of_pos c]; omega
      rw [h3]
      conv => lhs; arg 2; rw [he]
      rw [← Int.mul_assoc, Int.mul_comm d.sign, Int.mul_assoc]
    rw [h2]
    exact Int.mul_ediv_cancel_left _ (by omega)
  generalize hgg : ((Nat.gcd n.natAbs d.natAbs : Nat) : Int) = g at *
  have g0 : g ≠ 0 := by omega
  by_cases c : 0 < d
  · rw [if_pos c] at hs
    subst hs
    rw [q1, q2, Int.sign_eq_one_of_pos c, Int.one_mul, Int.one_mul]
    exact ⟨by conv => lhs; arg 1; rw [hm]
              exact Int.mul_fdiv_cancel_left _ g0, by conv => lhs; arg 1; rw [he]
                                                      exact Int.mul_fdiv_cancel_left _ g0⟩
  · rw [if_neg c] at hs
    subst hs
    have c2 : d < 0 := by omega
    rw [q1, q2, Int.sign_eq_neg_one_of_neg c2]
    refine ⟨?_, ?_⟩
    · conv => lhs; arg 1; rw [hm, show g * m = -g * (-1 * m) by rw [Int.neg_one_mul, Int.neg_mul_neg]]
      exact Int.mul_fdiv_cancel_left _ (by omega)
    · conv => lhs; arg 1; rw [he, show g * e = -g * (-1 * e) by rw [Int.neg_one_mul, Int.neg_mul_neg]]
      exact Int.mul_fdiv_cancel_left _ (by omega)
theorem div_ok {n d : Int} (hd : d ≠ 0) (hb : d.natAbs < 2 ^ 8999) : divOk (Nat.gcd n.natAbs d.natAbs : Int) = true ∧ divOk (-(Nat.gcd n.natAbs d.natAbs : Int)) = true := by
  have hg0 : 0 < Nat.gcd n.natAbs d.natAbs := Nat.gcd_pos_of_pos_right _ (by omega)
  have hl : Nat.gcd n.natAbs d.natAbs ≤ d.natAbs := Nat.le_of_dvd (by omega) (Nat.gcd_dvd_right ..)
  have h1 : (Nat.gcd n.natAbs d.natAbs).log2 < 9000 := Nat.lt_trans (PySem.Flt.log2_lt_of (k := 8999) (by decide) (Nat.lt_of_le_of_lt hl hb)) (by decide)
  unfold divOk
  simp only [Bool.and_eq_true, decide_eq_true_eq, Int.natAbs_neg, Int.natAbs_natCast]
  exact ⟨⟨by omega, h1⟩, ⟨by omega, h1⟩⟩
theorem lowest_val {n d : Int} (hd : d ≠ 0) (hb : d.natAbs < 2 ^ 8999) : f_lowest [.int n, .int d] = pure (dQ (Rat.divInt n d)) := by
  rw [c_lowest, u_runB]
  obtain ⟨h1, h2⟩ := div_ok (n := n) hd hb
  simp [u_seqM, envOf, h1, h2]
  have hp := low_parts n d hd _ rfl
  by_cases c : 0 < d
  · rw [if_pos c] at hp ⊢
    rw [hp.1, hp.2]
  · rw [if_neg c] at hp ⊢
    rw [hp.1, hp.2]
theorem sm_divInt {n d : Int} {b : Nat} (hd : d ≠ 0) (h1 : n.natAbs < 2 ^ b) (h2 : d.natAbs < 2 ^ b) : sm b (Rat.divInt n d) := by
  have hg0 : 0 < d.gcd n := Int.gcd_pos_of_ne_zero_left _ hd
  refine ⟨?_, ?_⟩
  · rw [Rat.num_divInt]
    have : (d.sign * n / (d.gcd n : Int)).natAbs ≤ n.natAbs := by
      have e : (d.sign * n).natAbs = n.natAbs := by
        rw [Int.natAbs_mul, Int.natAbs_sign_of_ne_zero hd, Nat.one_mul]
      have := Int.natAbs_ediv_le_natAbs (d.sign * n) (d.gcd n)
      omega
    omega
  · rw [Rat.den_divInt, if_neg hd]
    have := Nat.div_le_self d.natAbs (d.gcd n)
    omega
theorem sm_mono {a b : Nat} {q : Rat} (h : sm a q) (hab : a ≤ b) : sm b q :=
  ⟨Nat.lt_of_lt_of_le h.1 (Nat.pow_le_pow_right (by decide) hab), Nat.lt_of_lt_of_le h.2 (Nat.pow_le_pow_right (by decide) hab)⟩
theorem lt_mul {a b m n : Nat} (h1 : a < 2 ^ m) (h2 : b < 2 ^ n) : a * b < 2 ^ (m + n) := by
  rw [Nat.pow_add]
  exact Nat.mul_lt_mul'' h1 h2
theorem mulOk_of {i j : Int} {a b : Nat} (h1 : i.natAbs < 2 ^ a) (h2 : j.natAbs < 2 ^ b) (ha : a ≤ 100000) (hb : b ≤ 100000) : mulOk i j = true := by
  have l1 : i.natAbs.log2 < 100001 := Nat.lt_of_lt_of_le (PySem.Flt.log2_lt_of (k := a + 1) (by omega) (Nat.lt_of_lt_of_le h1 (Nat.pow_le_pow_right (by decide) (by omega)))) (by omega)
  have l2 : j.natAbs.log2 < 100001 := Nat.lt_of_lt_of_le (PySem.Flt.log2_lt_of (k := b + 1) (by omega) (Nat.lt_of_lt_of_le h2 (Nat.pow_le_pow_right (by decide) (by omega)))) (by omega)
  exact decide_eq_true (by omega)
theorem den_ne (q : Rat) : (q.den : Int) ≠ 0 := by have := q.den_pos; omega
theorem q_add (a b : Rat) : Rat.divInt (a.num * b.den + b.num * a.den) (a.den * b.den) = a + b := by
  have := Rat.divInt_add_divInt a.num b.num (den_ne a) (den_ne b)
  rw [Rat.num_divInt_den, Rat.num_divInt_den] at this
  exact this.symm
theorem q_sub (a b : Rat) : Rat.divInt (a.num * b.den - b.num * a.den) (a.den * b.den) = a - b := by
  have := Rat.divInt_sub_divInt a.num b.num (den_ne a) (den_ne b)
  rw [Rat.num_divInt_den, Rat.num_divInt_den] at this
  exact this.symm
theorem q_mul (a b : Rat) : Rat.divInt (a.num * b.num) (a.den * b.den) = a * b := by
  have := Rat.divInt_mul_divInt a.num b.num (d₁ := a.den) (d₂ := b.den)
  rw [Rat.num_divInt_den, Rat.num_divInt_den] at this
  exact this.symm
theorem natAbs_add_lt {i j : Int} {n : Nat} (h1 : i.natAbs < 2 ^ n) (h2 : j.natAbs < 2 ^ n) : (i + j).natAbs < 2 ^ (n + 1) ∧ (i - j).natAbs < 2 ^ (n + 1) := by
  rw [Nat.pow_succ]
  omega
theorem mul_lt {i j : Int} {m n : Nat} (h1 : i.natAbs < 2 ^ m) (h2 : j.natAbs < 2 ^ n) : (i * j).natAbs < 2 ^ (m + n) := by
  rw [Int.natAbs_mul]
  exact lt_mul h1 h2
theorem den_lt {q : Rat} {b : Nat} (h : sm b q) : (q.den : Int).natAbs < 2 ^ b := by
  rw [Int.natAbs_natCast]
  exact h.2
section
variable {a b : Rat} {m n : Nat}
theorem sm_add (ha : sm m a) (hb : sm n b) : sm (m + n + 1) (a + b) := by
  rw [← q_add]
  refine sm_divInt (Int.mul_ne_zero (den_ne a) (den_ne b)) (natAbs_add_lt (mul_lt ha.1 (den_lt hb)) ?_).1 (Nat.lt_of_lt_of_le (mul_lt (den_lt ha) (den_lt hb)) (Nat.pow_le_pow_right (by decide) (by omega)))
  rw [Nat.add_comm]
  exact mul_lt hb.1 (den_lt ha)
theorem sm_sub (ha : sm m a) (hb : sm n b) : sm (m + n + 1) (a - b) := by
  rw [← q_sub]
  refine sm_divInt (Int.mul_ne_zero (den_ne a) (den_ne b)) (natAbs_add_lt (mul_lt ha.1 (den_lt hb)) ?_).2 (Nat.lt_of_lt_of_le (mul_lt (den_lt ha) (den_lt hb)) (Nat.pow_le_pow_right (by decide) (by omega)))
  rw [Nat.add_comm]
  exact mul_lt hb.1 (den_lt ha)
theorem sm_mul (ha : sm m a) (hb : sm n b) : sm (m + n) (a * b) := by
  rw [← q_mul]
  exact sm_divInt (Int.mul_ne_zero (den_ne a) (den_ne b)) (mul_lt ha.1 hb.1) (mul_lt (den_lt ha) (den_lt hb))
theorem mok (ha : sm m a) (hb : sm n b) (hm : m ≤ 4400) (hn : n ≤ 4400) : mulOk a.num b.den = true ∧ mulOk b.num a.den = true ∧ mulOk (a.den : Int) b.den = true ∧ mulOk a.num b.num = true ∧ mulOk (a.den : Int) b.num = true ∧ mulOk (b.den : Int) a.num = true :=
  ⟨mulOk_of ha.1 (den_lt hb) (by omega) (by omega), mulOk_of hb.1 (den_lt ha) (by omega) (by omega), mulOk_of (den_lt ha) (den_lt hb) (by omega) (by omega), mulOk_of ha.1 hb.1 (by omega) (by omega), mulOk_of (den_lt ha) hb.1 (by omega) (by omega), mulOk_of (den_lt hb) ha.1 (by omega) (by omega)⟩
theorem den_big (ha : sm m a) (hb : sm n b) (hm : m ≤ 4400) (hn : n ≤ 4400) : ((a.den : Int) * b.den).natAbs < 2 ^ 8999 := Nat.lt_of_lt_of_le (mul_lt (den_lt ha) (den_lt hb)) (Nat.pow_le_pow_right (by decide) (by omega))
theorem plus_val (ha : sm m a) (hb : sm n b) (hm : m ≤ 4400) (hn : n ≤ 4400) : f_plus [dQ a, dQ b] = pure (dQ (a + b)) := by
  rw [c_plus, u_runB]
  obtain ⟨h1, h2, h3, h4, h5, h6⟩ := mok ha hb hm hn
  simp [u_seqM, envOf, h1, h2, h3]
  rw [lowest_val (Int.mul_ne_zero (den_ne a) (den_ne b)) (den_big ha hb hm hn), q_add] <;> rfl
theorem minus_val (ha : sm m a) (hb : sm n b) (hm : m ≤ 4400) (hn : n ≤ 4400) : f_minus [dQ a, dQ b] = pure (dQ (a - b)) := by
  rw [c_minus, u_runB]
  obtain ⟨h1, h2, h3, h4, h5, h6⟩ := mok ha hb hm hn
  simp [u_seqM, envOf, h1, h2, h3]
  rw [lowest_val (Int.mul_ne_zero (den_ne a) (den_ne b)) (den_big ha hb hm hn), q_sub] <;> rfl
theorem times_val (ha : sm m a) (hb : sm n b) (hm : m ≤ 4400) (hn : n ≤ 4400) : f_times [dQ a, dQ b] = pure (dQ (a * b)) := by
  rw [c_times, u_runB]
  obtain ⟨h1, h2, h3, h4, h5, h6⟩ := mok ha hb hm hn
  simp [u_seqM, envOf, h3, h4]
  rw [lowest_val (Int.mul_ne_zero (den_ne a) (den_ne b)) (den_big ha hb hm hn), q_mul] <;> rfl
theorem less_val (ha : sm m a) (hb : sm n b) (hm : m ≤ 4400) (hn : n ≤ 4400) : f_is_less [dQ a, dQ b] = pure (.bl (decide (a < b))) := by
  rw [c_is_less, u_runB]
  obtain ⟨h1, h2, h3, h4, h5, h6⟩ := mok ha hb hm hn
  simp [u_seqM, envOf, h1, h2, Rat.lt_iff]
end
end TP
end

-- text K21
section
set_option maxHeartbeats 4000000
set_option autoImplicit false
namespace TL
open PySem PySem.Spec L2
/-! ### loops over data -/
@[simp] theorem nox_pure {α : Type} (a : α) : nox (pure a : Mo α) = pure a := rfl
@[simp] theorem u_compOne (tg : D → Ev → Option Ev) (tt : Ev → Mo Bool) (el : Ev → Mo D) (env : Ev) (d : D) : compOne tg tt el env d = (do
  let env' ← Mo.of (tg d env)
  let b ← nox (tt env')
  if b = true then do
    let y ← nox (el env')
    pure (some y)
  else pure none) := rfl
theorem comp_eq {one : D → Mo (Option D)} {f : D → Option D} : ∀ {ds : List D}, (∀ d, d ∈ ds → one d = pure (f d)) → compGo one ds = pure (ds.filterMap f)
  | [], _ => rfl
  | d :: ds, h => by
    show ((one d) >>= fun o => (compGo one ds) >>= fun r => pure (match o with
      | some y => y :: r
      | none => r)) = _
    rw [h d (List.mem_cons_self ..), comp_eq fun d' hd => h d' (List.mem_cons_of_mem _ hd), List.filterMap_cons]
    show (pure (match f d with
      | some y => y :: ds.filterMap f
      | none => ds.filterMap f) : Mo (List D)) = _
    cases f d <;> rfl
/-- every item gives one -/
theorem comp_map {one : D → Mo (Option D)} {α : Type} {e : α → D} {f : α → D} {xs : List α} (h : ∀ x, x ∈ xs → one (e x) = pure (some (f x))) : compGo one (xs.map e) = pure (xs.map f) := by
  induction xs with
  | nil => rfl
  | cons x xs ih =>
    show ((one (e x)) >>= fun o => (compGo one (xs.map e)) >>= fun r => pure (match o with
      | some y => y :: r
      | none => r)) = _
    rw [h x (List.mem_cons_self ..), ih fun y hy => h y (List.mem_cons_of_mem _ hy)] <;> rfl
/-- some items give one -/
theorem comp_filter {one : D → Mo (Option D)} {α : Type} {e : α → D} {p : α → Bool} {f : α → D} {xs : List α} (h : ∀ x, x ∈ xs → one (e x) = pure (if p x = true then some (f x) else none)) : compGo one (xs.map e) = pure ((xs.filter p).map f) := by
  induction xs with
  | nil => rfl
  | cons x xs ih =>
    show ((one (e x)) >>= fun o => (compGo one (xs.map e)) >>= fun r => pure (match o with
      | some y => y :: r
      | none => r)) = _
    rw [h x (List.mem_cons_self ..), ih fun y hy => h y (List.mem_cons_of_mem _ hy), List.filter_cons]
    by_cases q : p x = true
    · rw [if_pos q, if_pos q] <;> rfl
    · rw [if_neg q, if_neg q] <;> rfl
theorem for_ok {ft : D → Ev → Option Ev} {body : Ev → Mo (Fl × Ev)} : ∀ {ds : List D} (I : Nat → Ev → Prop), (∀ i d env, ds[i]? = some d → I i env → ∃ env1 env2, ft d env = some env1 ∧ body env1 = pure (.nx, env2) ∧ I (i + 1) env2) → ∀ env, I 0 env → ∃ env', forGo ft body ds env = pure (.nx, env') ∧ I ds.length env'
  | [], I, _, env, h => ⟨env, rfl, h⟩
  | d :: ds, I, st, env, h => by
    obtain ⟨e1, e2, h1, h2, h3⟩ := st 0 d env rfl h
    obtain ⟨e', h4, h5⟩ := for_ok (ds := ds) (fun i => I (i + 1)) (fun i d env hd hi => st (i + 1) d env (by simpa using hd) hi) e2 h3
    refine ⟨e', ?_, h5⟩
    show (Mo.of (ft d env) >>= fun env1 => body env1 >>= fun r => match r with
      | (.nx, env2) => forGo ft body ds env2
      | (.ct, env2) => forGo ft body ds env2
      | (.bk, env2) => pure (.nx, env2)
      | (.ret d, env2) => pure (.ret d, env2)) = _
    rw [h1]
    show (body e1 >>= fun r => match r with
      | (.nx, env2) => forGo ft body ds env2
      | (.ct, env2) => forGo ft body ds env2
      | (.bk, env2) => pure (.nx, env2)
      | (.ret d, env2) => pure (.ret d, env2)) = _
    rw [h2]
    exact h4
theorem wh_pure {c : Ev → Mo Bool} {b : Ev → Mo (Fl × Ev)} {n : Nat} {env : Ev} {r : Fl × Ev} (h : whN c b n env = pure r) : whD c b env = pure r := by
  funext g
  rw [whD_of (n := n) (by rw [h]; exact fun z => by cases z), h]
theorem wh_step {c : Ev → Mo Bool} {b : Ev → Mo (Fl × Ev)} {n : Nat} {env env' : Ev} (h1 : c env = pure true) (h2 : b env = pure (.nx, env')) : whN c b (n + 1) env = whN c b n env' := by
  show whS c b (whN c b n) env = _
  unfold whS
  rw [h1]
  show (b env >>= fun r => match r with
    | (.nx, env2) => whN c b n env2
    | (.ct, env2) => whN c b n env2
    | (.bk, env2) => pure (.nx, env2)
    | (.ret d, env2) => pure (.ret d, env2)) = _
  rw [h2] <;> rfl
theorem wh_stop {c : Ev → Mo Bool} {b : Ev → Mo (Fl × Ev)} {n : Nat} {env : Ev} (h1 : c env = pure false) : whN c b (n + 1) env = pure (.nx, env) := by
  show whS c b (whN c b n) env = _
  unfold whS
  rw [h1] <;> rfl
end TL
namespace TP
open PySem PySem.Spec L2 TL
/-! ### Euclid -/
theorem euclid (n d : D) : ∀ (b a : Nat), ∃ k, whN (tstB (cmE .Gt (eV 3) (eC (.int 0)))) (seqM (sPar 2 3 (eCons (eV 3) (eCons (eO modD (callE intD (eCons (eV 2) eNil)) (eV 3)) eNil))) sNx) k [.dat n, .dat d, .dat (.int (a : Int)), .dat (.int (b : Int))] = pure (.nx, [.dat n, .dat d, .dat (.int (Nat.gcd a b : Nat)), .dat (.int 0)])
  | b, a => by
    by_cases h : b = 0
    · subst h
      exact ⟨1, by rw [wh_stop (by simp)]; simp⟩
    · obtain ⟨k, hk⟩ := euclid n d (a % b) b
      refine ⟨k + 1, ?_⟩
      have hb : (0 : Int) < b := by omega
      rw [wh_step (env' := [.dat n, .dat d, .dat (.int (b : Int)), .dat (.int ((a % b : Nat) : Int))]) (by simp [Nat.pos_of_ne_zero h]) (by simp [u_seqM, Nat.pos_of_ne_zero h, h]), hk, Nat.gcd_comm b, ← Nat.gcd_rec, Nat.gcd_comm]
  termination_by b => b
  decreasing_by exact Nat.mod_lt _ (by omega)
theorem q_val {n d : Int} (hd : d ≠ 0) (hb : d.natAbs < 2 ^ 8999) : f_law_q [.int n, .int d] = pure (dQ (Rat.divInt n d)) := by
  rw [c_law_q, u_runB]
  obtain ⟨k, hk⟩ := euclid (.int n) (.int d) d.natAbs n.natAbs
  have hw := wh_pure hk
  obtain ⟨h1, h2⟩ := div_ok (n := n) hd hb
  have ab : ∀ i : Int, (if i < 0 then -i else i) = (i.natAbs : Int) := fun i => by split <;> omega
  simp [u_seqM, envOf, ab]
  rw [hw]
  simp [h1]
  by_cases c : 0 < d
  · have hp := low_parts n d hd _ rfl
    rw [if_pos c] at hp ⊢
    rw [hp.1, hp.2]
  · have hp := low_parts (-n) (-d) (by omega) _ rfl
    rw [if_neg c]
    rw [if_pos (by omega), Int.natAbs_neg, Int.natAbs_neg, Rat.neg_divInt_neg] at hp
    rw [hp.1, hp.2]
end TP
end

-- text K22
section
set_option maxHeartbeats 4000000
set_option autoImplicit false
namespace TL
open PySem PySem.Spec L2
theorem for_bind {β : Type} {ft : D → Ev → Option Ev} {body : Ev → Mo (Fl × Ev)} {ds : List D} {env : Ev} {k : Fl × Ev → Mo β} {R : Mo β} (I : Nat → Ev → Prop) (h0 : I 0 env)
    (st : ∀ i d env, ds[i]? = some d → I i env → ∃ env1 env2, ft d env = some env1 ∧ body env1 = pure (.nx, env2) ∧ I (i + 1) env2) (hk : ∀ env', I ds.length env' → k (.nx, env') = R) : (forGo ft body ds env >>= k) = R := by
  obtain ⟨e', h1, h2⟩ := for_ok I st env h0
  rw [h1]
  exact hk e' h2
@[simp] theorem it_lst (xs : List D) : itemsD (.lst xs) = pure xs := rfl
@[simp] theorem it_tup (xs : List D) : itemsD (.tup xs) = pure xs := rfl
@[simp] theorem zip_tt (xs ys : List D) : zipD [.tup xs, .tup ys] = pure (pairs xs ys) := rfl
@[simp] theorem zip_ll (xs ys : List D) : zipD [.lst xs, .lst ys] = pure (pairs xs ys) := rfl
@[simp] theorem zip_tl (xs ys : List D) : zipD [.tup xs, .lst ys] = pure (pairs xs ys) := rfl
@[simp] theorem tup_of_lst (xs : List D) : tupleD [.lst xs] = pure (.tup xs) := rfl
theorem pairs_map {α β : Type} (f : α → D) (g : β → D) (xs : List α) (ys : List β) : pairs (xs.map f) (ys.map g) = (xs.zip ys).map fun p => .tup [f p.1, g p.2] := by
  unfold pairs
  rw [List.zip_map, List.map_map] <;> rfl
end TL
namespace TP
open PySem PySem.Spec L2 TL
section
variable {a b : Rat} {m n : Nat}
theorem lplus_val (ha : sm m a) (hb : sm n b) (hm : m ≤ 4400) (hn : n ≤ 4400) : f_law_plus [dQ a, dQ b] = pure (dQ (a + b)) := by
  rw [c_law_plus, u_runB]
  obtain ⟨h1, h2, h3, h4, h5, h6⟩ := mok ha hb hm hn
  simp [u_seqM, envOf, h1, h2, h3]
  rw [q_val (Int.mul_ne_zero (den_ne a) (den_ne b)) (den_big ha hb hm hn), q_add] <;> rfl
theorem lminus_val (ha : sm m a) (hb : sm n b) (hm : m ≤ 4400) (hn : n ≤ 4400) : f_law_minus [dQ a, dQ b] = pure (dQ (a - b)) := by
  rw [c_law_minus, u_runB]
  obtain ⟨h1, h2, h3, h4, h5, h6⟩ := mok ha hb hm hn
  simp [u_seqM, envOf, h1, h2, h3]
  rw [q_val (Int.mul_ne_zero (den_ne a) (den_ne b)) (den_big ha hb hm hn), q_sub] <;> rfl
theorem ltimes_val (ha : sm m a) (hb : sm n b) (hm : m ≤ 4400) (hn : n ≤ 4400) : f_law_times [dQ a, dQ b] = pure (dQ (a * b)) := by
  rw [c_law_times, u_runB]
  obtain ⟨h1, h2, h3, h4, h5, h6⟩ := mok ha hb hm hn
  simp [u_seqM, envOf, h3, h4]
  rw [q_val (Int.mul_ne_zero (den_ne a) (den_ne b)) (den_big ha hb hm hn), q_mul] <;> rfl
theorem lless_val (ha : sm m a) (hb : sm n b) (hm : m ≤ 4400) (hn : n ≤ 4400) : f_law_less [dQ a, dQ b] = pure (.bl (decide (a < b))) := by
  rw [c_law_less, u_runB]
  obtain ⟨h1, h2, h3, h4, h5, h6⟩ := mok ha hb hm hn
  simp [u_seqM, envOf, h1, h2, Rat.lt_iff]
theorem lover_val (ha : sm m a) (hb : sm n b) (hm : m ≤ 4400) (hn : n ≤ 4400) (h0 : b ≠ 0) : ∃ q, f_law_over [dQ a, dQ b] = pure (dQ q) ∧ sm (m + n) q := by
  have hb0 : b.num ≠ 0 := fun z => h0 (Rat.num_eq_zero.mp z)
  have hne : (a.den : Int) * b.num ≠ 0 := Int.mul_ne_zero (den_ne a) hb0
  have hl : ((a.den : Int) * b.num).natAbs < 2 ^ (m + n) := mul_lt (den_lt ha) hb.1
  refine ⟨Rat.divInt (a.num * b.den) (a.den * b.num), ?_, sm_divInt hne (mul_lt ha.1 (den_lt hb)) hl⟩
  rw [c_law_over, u_runB]
  obtain ⟨h1, h2, h3, h4, h5, h6⟩ := mok ha hb hm hn
  simp [u_seqM, envOf, h1, h5]
  rw [q_val hne (Nat.lt_of_lt_of_le hl (Nat.pow_le_pow_right (by decide) (by omega)))] <;> rfl
end
/-! ### sums -/
def sumQ (qs : List Rat) : Rat := qs.foldl (· + ·) 0
theorem sm_zero : sm 1 0 := ⟨by decide, by decide⟩
theorem sum_sm {m : Nat} {qs : List Rat} (h : ∀ q, q ∈ qs → sm m q) : ∀ i, sm (1 + i * (m + 1)) (sumQ (qs.take i))
  | 0 => by
    rw [Nat.zero_mul, List.take_zero]
    exact sm_zero
  | i + 1 => by
    have ih := sum_sm h i
    by_cases c : i < qs.length
    · have e : sumQ (qs.take (i + 1)) = sumQ (qs.take i) + qs[i] := by
        unfold sumQ
        rw [List.take_succ_eq_append_getElem c, List.foldl_append] <;> rfl
      rw [e]
      exact sm_mono (sm_add ih (h _ (List.getElem_mem c))) (by rw [Nat.succ_mul]; omega)
    · rw [List.take_of_length_le (by omega)] at ih ⊢
      exact sm_mono ih (by rw [Nat.succ_mul]; omega)
theorem sum_all {m : Nat} {qs : List Rat} (h : ∀ q, q ∈ qs → sm m q) : sm (1 + qs.length * (m + 1)) (sumQ qs) := by
  have := sum_sm h qs.length
  rwa [List.take_length] at this
theorem dQ_zero : (.tup [.int 0, .int 1] : D) = dQ 0 := rfl
theorem sum_step {qs : List Rat} {i : Nat} {q : Rat} (h : qs[i]? = some q) : sumQ (qs.take i) + q = sumQ (qs.take (i + 1)) := by
  unfold sumQ
  rw [List.take_add_one, h, List.foldl_append] <;> rfl
theorem total_val {m : Nat} {qs : List Rat} (h : ∀ q, q ∈ qs → sm m q) (hm : 1 + qs.length * (m + 1) ≤ 4400) (hm2 : m ≤ 4400) : f_total [.lst (qs.map dQ)] = pure (dQ (sumQ qs)) := by
  rw [c_total, u_runB]
  simp [u_seqM, envOf]
  refine for_bind (fun i env => ∃ y, env = [.dat (.lst (qs.map dQ)), .dat (dQ (sumQ (qs.take i))), y]) ⟨.un, rfl⟩ (fun i d env hd hi => ?_) (fun env' hi => ?_)
  · obtain ⟨y, rfl⟩ := hi
    rw [List.getElem?_map] at hd
    obtain ⟨q, e1, rfl⟩ := Option.map_eq_some_iff.mp hd
    have hl : i < qs.length := (List.getElem?_eq_some_iff.mp e1).1
    have s1 := sum_sm h i
    have hle : 1 + i * (m + 1) ≤ 4400 := Nat.le_trans (Nat.add_le_add_left (Nat.mul_le_mul_right _ (by omega)) _) hm
    refine ⟨_, _, rfl, ?_, .dat (dQ q), rfl⟩
    simp [u_seqM, plus_val s1 (h q (List.mem_of_getElem? e1)) hle hm2, sum_step e1]
  · obtain ⟨y, rfl⟩ := hi
    rw [List.length_map, List.take_length]
    simp
theorem lsum_val {m : Nat} {qs : List Rat} (h : ∀ q, q ∈ qs → sm m q) (hm : 1 + qs.length * (m + 1) ≤ 4400) (hm2 : m ≤ 4400) : f_law_sum [.lst (qs.map dQ)] = pure (dQ (sumQ qs)) := by
  rw [c_law_sum, u_runB]
  simp [u_seqM, envOf]
  refine for_bind (fun i env => ∃ y, env = [.dat (.lst (qs.map dQ)), .dat (dQ (sumQ (qs.take i))), y]) ⟨.un, rfl⟩ (fun i d env hd hi => ?_) (fun env' hi => ?_)
  · obtain ⟨y, rfl⟩ := hi
    rw [List.getElem?_map] at hd
    obtain ⟨q, e1, rfl⟩ := Option.map_eq_some_iff.mp hd
    have hl : i < qs.length := (List.getElem?_eq_some_iff.mp e1).1
    have s1 := sum_sm h i
    have hle : 1 + i * (m + 1) ≤ 4400 := Nat.le_trans (Nat.add_le_add_left (Nat.mul_le_mul_right _ (by omega)) _) hm
    refine ⟨_, _, rfl, ?_, .dat (dQ q), rfl⟩
    simp [u_seqM, lplus_val s1 (h q (List.mem_of_getElem? e1)) hle hm2, sum_step e1]
  · obtain ⟨y, rfl⟩ := hi
    rw [List.length_map, List.take_length]
    simp
end TP
end

-- text K23
section
set_option maxHeartbeats 4000000
set_option autoImplicit false
namespace TP
open PySem PySem.Spec L2 TL
/-! ### vectors -/
abbrev dV (v : List Rat) : D := .tup (v.map dQ)
def smV (m : Nat) (v : List Rat) : Prop := ∀ q, q ∈ v → sm m q
def prodQ (x y : List Rat) : List Rat := (x.zip y).map fun p => p.1 * p.2
def subQ (x y : List Rat) : List Rat := (x.zip y).map fun p => p.1 - p.2
def dotQ (x y : List Rat) : Rat := sumQ (prodQ x y)
section
variable {m n : Nat} {x y : List Rat}
theorem zip_sm (hx : smV m x) (hy : smV n y) {p : Rat × Rat} (h : p ∈ x.zip y) : sm m p.1 ∧ sm n p.2 := ⟨hx _ (List.of_mem_zip h).1, hy _ (List.of_mem_zip h).2⟩
theorem prod_sm (hx : smV m x) (hy : smV n y) : smV (m + n) (prodQ x y) := fun q h => by
  obtain ⟨p, hp, rfl⟩ := List.mem_map.mp h
  obtain ⟨h1, h2⟩ := zip_sm hx hy hp
  exact sm_mul h1 h2
theorem sub_sm (hx : smV m x) (hy : smV n y) : smV (m + n + 1) (subQ x y) := fun q h => by
  obtain ⟨p, hp, rfl⟩ := List.mem_map.mp h
  obtain ⟨h1, h2⟩ := zip_sm hx hy hp
  exact sm_sub h1 h2
theorem dot_sm (hx : smV m x) (hy : smV n y) : sm (1 + (prodQ x y).length * (m + n + 1)) (dotQ x y) := sum_all (prod_sm hx hy)
theorem prod_len : (prodQ x y).length = min x.length y.length := by unfold prodQ; rw [List.length_map, List.length_zip]
theorem dot_val (hx : smV m x) (hy : smV n y) (hb : 1 + (prodQ x y).length * (m + n + 1) ≤ 4400) (hm : m + n ≤ 4400) : f_dot [dV x, dV y] = pure (dQ (dotQ x y)) := by
  rw [c_dot, u_runB]
  simp [u_seqM, envOf]
  rw [pairs_map, comp_map (f := fun p => dQ (p.1 * p.2)) (fun p hp => by
    obtain ⟨h1, h2⟩ := zip_sm hx hy hp
    simp [wipeE, times_val h1 h2 (by omega) (by omega)])]
  simp
  rw [show ((x.zip y).map fun p => dQ (p.1 * p.2)) = (prodQ x y).map dQ by unfold prodQ; rw [List.map_map] <;> rfl, total_val (prod_sm hx hy) hb hm] <;> rfl
theorem ldot_val (hx : smV m x) (hy : smV n y) (hb : 1 + (prodQ x y).length * (m + n + 1) ≤ 4400) (hm : m + n ≤ 4400) : f_law_dot [dV x, dV y] = pure (dQ (dotQ x y)) := by
  rw [c_law_dot, u_runB]
  simp [u_seqM, envOf]
  rw [pairs_map, comp_map (f := fun p => dQ (p.1 * p.2)) (fun p hp => by
    obtain ⟨h1, h2⟩ := zip_sm hx hy hp
    simp [wipeE, ltimes_val h1 h2 (by omega) (by omega)])]
  simp
  rw [show ((x.zip y).map fun p => dQ (p.1 * p.2)) = (prodQ x y).map dQ by unfold prodQ; rw [List.map_map] <;> rfl, lsum_val (prod_sm hx hy) hb hm] <;> rfl
theorem apart_val (hx : smV m x) (hy : smV n y) (hm : m + n ≤ 4400) : f_apart [dV x, dV y] = pure (dV (subQ x y)) := by
  rw [c_apart, u_runB]
  simp [u_seqM, envOf]
  rw [pairs_map, comp_map (f := fun p => dQ (p.1 - p.2)) (fun p hp => by
    obtain ⟨h1, h2⟩ := zip_sm hx hy hp
    simp [wipeE, minus_val h1 h2 (by omega) (by omega)])]
  simp
  rw [show dV (subQ x y) = .tup ((x.zip y).map fun p => dQ (p.1 - p.2)) by
    show D.tup ((subQ x y).map dQ) = _
    unfold subQ
    rw [List.map_map] <;> rfl]
end
/-! ### the value at a point -/
theorem cut_last {α : Type} (xs : List α) (h : 1 ≤ xs.length) : cutG xs none (some (-1)) = xs.dropLast := by
  unfold cutG HT.sIx
  simp
  rw [List.dropLast_eq_take]
  congr 1
  omega
theorem sl_last (xs : List D) (h : 1 ≤ xs.length) : slD (.tup xs) none (some (-1)) = pure (.tup xs.dropLast) := by
  show pure (D.tup (cutG xs none (some (-1)))) = _
  rw [cut_last xs h]
theorem at_last {α : Type} (xs : List α) (x : α) (h : xs.getLast? = some x) : L2.atI xs (-1) = some x := by
  have hl : xs ≠ [] := fun z => by subst z; cases h
  have hp : 0 < xs.length := List.length_pos_iff.mpr hl
  unfold L2.atI
  have e : L2.ixN xs.length (-1) = some (xs.length - 1) := by
    unfold L2.ixN
    simp
    omega
  rw [e]
  show xs[xs.length - 1]? = some x
  rw [← List.getLast?_eq_getElem?]
  exact h
def lastQ (f : List Rat) : Rat := f.getLast?.getD 0
def worthQ (f p : List Rat) : Rat := dotQ f.dropLast p + lastQ f
theorem smV_drop {m : Nat} {f : List Rat} (h : smV m f) : smV m f.dropLast := fun q hq => h q (List.dropLast_subset _ hq)
theorem last_some {f : List Rat} (h : 1 ≤ f.length) : f.getLast? = some (lastQ f) := by
  unfold lastQ
  cases q : f.getLast? with
  | none =>
    rw [List.getLast?_eq_none_iff] at q
    subst q
    cases h
  | some x => rfl
theorem smV_last {m : Nat} {f : List Rat} (h : smV m f) (hl : 1 ≤ f.length) : sm m (lastQ f) := h _ (List.mem_of_getLast? (last_some hl))
theorem ix_last {f : List Rat} (hl : 1 ≤ f.length) : ixD (dV f) (.int (-1)) = pure (dQ (lastQ f)) := by
  show Mo.of (L2.atI (f.map dQ) (-1)) = _
  rw [at_last (f.map dQ) (dQ (lastQ f)) (by rw [List.getLast?_map, last_some hl] <;> rfl)] <;> rfl
theorem sl_dV {f : List Rat} (hl : 1 ≤ f.length) : slD (dV f) none (some (-1)) = pure (dV f.dropLast) := by
  rw [sl_last _ (by rw [List.length_map]; exact hl)]
  show pure (D.tup (f.map dQ).dropLast) = _
  rw [← List.map_dropLast]
section
variable {m n : Nat} {f p : List Rat}
def bw (m n k : Nat) : Nat := (1 + k * (m + n + 1)) + m + 1
theorem worth_sm (hf : smV m f) (hp : smV n p) (hl : 1 ≤ f.length) : sm (bw m n (f.length - 1)) (worthQ f p) := by
  refine sm_mono (sm_add (dot_sm (smV_drop hf) hp) (smV_last hf hl)) ?_
  unfold bw
  rw [prod_len, List.length_dropLast]
  have : min (f.length - 1) p.length * (m + n + 1) ≤ (f.length - 1) * (m + n + 1) := Nat.mul_le_mul_right _ (Nat.min_le_left ..)
  omega
theorem worth_le (hb : bw m n (f.length - 1) ≤ 4400) : 1 + (prodQ f.dropLast p).length * (m + n + 1) ≤ 4400 ∧ m ≤ 4400 := by
  unfold bw at hb
  rw [prod_len, List.length_dropLast]
  have : min (f.length - 1) p.length * (m + n + 1) ≤ (f.length - 1) * (m + n + 1) := Nat.mul_le_mul_right _ (Nat.min_le_left ..)
  omega
theorem worth_val (hf : smV m f) (hp : smV n p) (hl : 1 ≤ f.length) (hb : bw m n (f.length - 1) ≤ 4400) (hmn : m + n ≤ 4400) : f_worth_of [dV f, dV p] = pure (dQ (worthQ f p)) := by
  obtain ⟨b1, b2⟩ := worth_le (p := p) hb
  have h1 := sl_dV hl
  have h2 := ix_last hl
  have h3 := dot_val (smV_drop hf) hp b1 hmn
  have h4 := plus_val (dot_sm (smV_drop hf) hp) (smV_last hf hl) b1 b2
  rw [c_worth_of, u_runB]
  simp [u_seqM, envOf, intO]
  rw [h1]
  simp
  rw [h3]
  simp
  rw [h2]
  simp
  rw [h4] <;> rfl
end
end TP
end

-- text K24
section
set_option maxHeartbeats 4000000
set_option autoImplicit false
namespace TP
open PySem PySem.Spec L2 TL
/-! ### the greatest -/
theorem eq_dQ (a b : Rat) : cmF .Eq (dQ a) (dQ b) = pure (.bl (decide (a = b))) := by
  have e : cmF .Eq (dQ a) (dQ b) = pure (.bl (a.num == b.num && ((a.den : Int) == (b.den : Int) && true))) := rfl
  rw [e]
  congr 2
  rw [Bool.and_true]
  by_cases h : a = b
  · subst h
    simp
  · rw [decide_eq_false h]
    have : ¬ (a.num = b.num ∧ a.den = b.den) := fun ⟨h1, h2⟩ => h (Rat.ext h1 h2)
    simp
    intro h1 h2
    exact this ⟨h1, by omega⟩
def maxQ : List Rat → Rat
  | [] => 0
  | w :: ws => ws.foldl (fun a b => if a < b then b else a) w
theorem max_ge (w : Rat) (ws : List Rat) : w ≤ ws.foldl (fun a b => if a < b then b else a) w ∧ (∀ x, x ∈ ws → x ≤ ws.foldl (fun a b => if a < b then b else a) w) ∧ (ws.foldl (fun a b => if a < b then b else a) w = w ∨ ws.foldl (fun a b => if a < b then b else a) w ∈ ws) := by
  induction ws generalizing w with
  | nil => exact ⟨Rat.le_refl, fun x h => (by cases h), .inl rfl⟩
  | cons y ys ih =>
    rw [List.foldl_cons]
    obtain ⟨h1, h2, h3⟩ := ih (if w < y then y else w)
    have k : w ≤ (if w < y then y else w) ∧ y ≤ (if w < y then y else w) := by
      by_cases c : w < y
      · rw [if_pos c]; exact ⟨Rat.le_of_lt c, Rat.le_refl⟩
      · rw [if_neg c]; exact ⟨Rat.le_refl, Rat.not_lt.mp c⟩
    refine ⟨Rat.le_trans k.1 h1, fun x hx => ?_, ?_⟩
    · rcases List.mem_cons.mp hx with rfl | hx
      · exact Rat.le_trans k.2 h1
      · exact h2 x hx
    · rcases h3 with h3 | h3
      · rw [h3]
        by_cases c : w < y
        · rw [if_pos c]; exact .inr (List.mem_cons_self ..)
        · rw [if_neg c]; exact .inl rfl
      · exact .inr (List.mem_cons_of_mem _ h3)
theorem maxQ_ok {ws : List Rat} (h : ws ≠ []) : maxQ ws ∈ ws ∧ ∀ x, x ∈ ws → x ≤ maxQ ws := by
  cases ws with
  | nil => exact absurd rfl h
  | cons w ws =>
    obtain ⟨h1, h2, h3⟩ := max_ge w ws
    refine ⟨?_, fun x hx => ?_⟩
    · show ws.foldl (fun a b => if a < b then b else a) w ∈ w :: ws
      rcases h3 with h3 | h3
      · rw [h3]; exact List.mem_cons_self ..
      · exact List.mem_cons_of_mem _ h3
    · rcases List.mem_cons.mp hx with rfl | hx
      · exact h1
      · exact h2 x hx
theorem max_take_mem {w : Rat} {ws : List Rat} (i : Nat) : (ws.take i).foldl (fun a b => if a < b then b else a) w ∈ w :: ws := by
  rcases (max_ge w (ws.take i)).2.2 with h | h
  · rw [h]; exact List.mem_cons_self ..
  · exact List.mem_cons_of_mem _ (List.mem_of_mem_take h)
theorem cut_from1 {α : Type} (xs : List α) (h : 1 ≤ xs.length) : cutG xs (some 1) none = xs.drop 1 := by
  have e1 : HT.sIx xs.length 0 (some 1) = 1 := by
    show (if (1 : Int) < 0 then (1 + (xs.length : Int)).toNat else min (1 : Int).toNat xs.length) = 1
    rw [if_neg (by decide)]
    exact Nat.min_eq_left h
  have e2 : HT.sIx xs.length xs.length none = xs.length := rfl
  unfold cutG
  rw [e1, e2]
  exact List.take_of_length_le (by rw [List.length_drop]; exact Nat.le_refl _)
theorem at_nat {α : Type} (xs : List α) (i : Nat) : L2.atI xs (i : Int) = xs[i]? := by
  unfold L2.atI L2.ixN
  rw [if_pos (by omega)]
  by_cases c : i < xs.length
  · rw [if_pos (by omega)] <;> rfl
  · rw [if_neg (by omega), List.getElem?_eq_none (by omega)] <;> rfl
theorem ixl_nat (xs : List D) (i : Nat) : ixD (.lst xs) (.int (i : Int)) = Mo.of xs[i]? := by
  show Mo.of (L2.atI xs (i : Int)) = _
  rw [at_nat]
theorem ixt_nat (xs : List D) (i : Nat) : ixD (.tup xs) (.int (i : Int)) = Mo.of xs[i]? := by
  show Mo.of (L2.atI xs (i : Int)) = _
  rw [at_nat]
theorem greatest_val {m : Nat} {w : Rat} {ws : List Rat} (h : smV m (w :: ws)) (hm : m ≤ 4400) : f_greatest_of [.lst ((w :: ws).map dQ)] = pure (dQ (maxQ (w :: ws))) := by
  rw [c_greatest_of, u_runB]
  have e0 : ixD (.lst ((w :: ws).map dQ)) (.int 0) = pure (dQ w) := ixl_nat _ 0
  have e1 : slD (.lst ((w :: ws).map dQ)) (some 1) none = pure (.lst (ws.map dQ)) := by
    show pure (D.lst (cutG ((w :: ws).map dQ) (some 1) none)) = _
    rw [cut_from1 _ (by simp)] <;> rfl
  simp only [List.map_cons] at e0 e1
  simp [u_seqM, envOf, intO, e0, e1]
  refine for_bind (fun i env => ∃ y, env = [.dat (.lst (dQ w :: ws.map dQ)), .dat (dQ ((ws.take i).foldl (fun a b => if a < b then b else a) w)), y]) ⟨.un, rfl⟩ (fun i d env hd hi => ?_) (fun env' hi => ?_)
  · obtain ⟨y, rfl⟩ := hi
    rw [List.getElem?_map] at hd
    obtain ⟨q, e2, rfl⟩ := Option.map_eq_some_iff.mp hd
    refine ⟨_, _, rfl, ?_, .dat (dQ q), rfl⟩
    have hl := less_val (h _ (max_take_mem (w := w) i)) (h q (List.mem_cons_of_mem _ (List.mem_of_getElem? e2))) hm hm
    simp [u_seqM, hl]
    rw [List.take_add_one, e2, List.foldl_append]
    simp
    split <;> rfl
  · obtain ⟨y, rfl⟩ := hi
    rw [List.length_map, List.take_length]
    simp
    rfl
end TP
end

-- text K25
section
set_option maxHeartbeats 4000000
set_option autoImplicit false
namespace TP
open PySem PySem.Spec L2 TL
/-! ### lines -/
abbrev Row := Str × List Rat
abbrev dRow (r : Row) : D := .tup [.str r.1, dV r.2]
abbrev dRows (rows : List Row) : D := .tup (rows.map dRow)
abbrev dLn (rows : List Row) : D := .tup [.str "lines", dRows rows]
/-- rows whose values at the point p can be told -/
structure Pt (m n : Nat) (rows : List Row) (p : List Rat) : Prop where
  f : ∀ r, r ∈ rows → smV m r.2 ∧ 1 ≤ r.2.length ∧ bw m n (r.2.length - 1) ≤ 4400
  p : smV n p
  mn : m + n ≤ 4400
  ne : rows ≠ []
section
variable {m n : Nat} {rows : List Row} {p : List Rat}
theorem zip_self {α β : Type} (xs : List α) (f : α → β) : xs.zip (xs.map f) = xs.map fun x => (x, f x) := by
  induction xs with
  | nil => rfl
  | cons x xs ih => rw [List.map_cons, List.zip_cons_cons, ih, List.map_cons]
def chosenW (rows : List Row) (p : List Rat) : List Row := rows.filter fun r => decide (∀ r', r' ∈ rows → worthQ r'.2 p ≤ worthQ r.2 p)
theorem worths_sm (h : Pt m n rows p) : smV 4400 (rows.map fun r => worthQ r.2 p) := fun q hq => by
  obtain ⟨r, hr, rfl⟩ := List.mem_map.mp hq
  obtain ⟨h1, h2, h3⟩ := h.f r hr
  exact sm_mono (worth_sm h1 h.p h2) h3
theorem gw_val (h : Pt m n rows p) : f_greatest_words [dLn rows, dV p] = pure (.tup ((chosenW rows p).map fun r => .str r.1)) := by
  rw [c_greatest_words, u_runB]
  simp [u_seqM, envOf]
  rw [comp_map (e := dRow) (f := fun r => dQ (worthQ r.2 p)) (fun r hr => by
    obtain ⟨h1, h2, h3⟩ := h.f r hr
    simp [wipeE, worth_val h1 h.p h2 h3 h.mn])]
  simp
  have e0 : (rows.map fun r => dQ (worthQ r.2 p)) = (rows.map fun r => worthQ r.2 p).map dQ := by rw [List.map_map] <;> rfl
  rw [e0]
  have hg : f_greatest_of [.lst ((rows.map fun r => worthQ r.2 p).map dQ)] = pure (dQ (maxQ (rows.map fun r => worthQ r.2 p))) := by
    have hs := worths_sm h
    cases rows with
    | nil => exact absurd rfl h.ne
    | cons r0 rs => exact greatest_val hs (Nat.le_refl _)
  rw [hg]
  simp [-List.map_map]
  have ez : pairs (rows.map dRow) ((rows.map fun r => worthQ r.2 p).map dQ) = rows.map (fun r : Row => D.tup [dRow r, dQ (worthQ r.2 p)]) := by
    rw [pairs_map, zip_self, List.map_map] <;> rfl
  rw [ez]
  have hm := maxQ_ok (ws := rows.map fun r => worthQ r.2 p) (fun z => h.ne (List.map_eq_nil_iff.mp z))
  rw [comp_filter (e := fun r : Row => D.tup [dRow r, dQ (worthQ r.2 p)]) (p := fun r : Row => decide (worthQ r.2 p = maxQ (rows.map fun r => worthQ r.2 p))) (f := fun r : Row => .str r.1) (fun r hr => by
    simp [wipeE, eq_dQ]
    split <;> rfl)]
  simp
  congr 2
  unfold chosenW
  congr 1
  apply List.filter_congr
  intro r hr
  rw [decide_eq_decide]
  refine ⟨fun e r' hr' => ?_, fun e => ?_⟩
  · rw [e]
    exact hm.2 _ (List.mem_map.mpr ⟨r', hr', rfl⟩)
  · obtain ⟨r', h1, h2⟩ := List.mem_map.mp hm.1
    exact Rat.le_antisymm (hm.2 _ (List.mem_map.mpr ⟨r, hr, rfl⟩)) (h2 ▸ e r' h1)
theorem lw_val (h : Pt m n rows p) : f_law_ln_worths [dLn rows, dV p] = pure (.lst ((rows.map fun r => worthQ r.2 p).map dQ)) := by
  rw [c_law_ln_worths, u_runB]
  simp [u_seqM, envOf]
  rw [comp_map (e := dRow) (f := fun r => dQ (worthQ r.2 p)) (fun r hr => by
    obtain ⟨h1, h2, h3⟩ := h.f r hr
    obtain ⟨b1, b2⟩ := worth_le (p := p) h3
    have k1 := sl_dV h2
    have k2 := ix_last h2
    have k3 := ldot_val (smV_drop h1) h.p b1 h.mn
    have k4 := lplus_val (dot_sm (smV_drop h1) h.p) (smV_last h1 h2) b1 b2
    simp [wipeE, intO, k1, k2, k3, k4, worthQ])]
  simp [-List.map_map]
  rfl
theorem eq_ones {α : Type} (xs : List α) : cmF .Eq (.lst (xs.map fun _ => .int 1)) (.lst []) = pure (.bl xs.isEmpty) := by
  have hp : toPyL (xs.map fun _ => D.int 1) = some (xs.map fun _ => PyData.int 1) := by
    induction xs with
    | nil => rfl
    | cons x xs ih =>
      show (match toPy (.int 1), toPyL (xs.map fun _ => D.int 1) with
        | some y, some ys => some (y :: ys)
        | _, _ => none) = _
      rw [ih] <;> rfl
  have h1 : (xs.map fun _ => PyData.int 1) = ((xs.map fun _ => (1 : Int)).map PyData.int) := by rw [List.map_map] <;> rfl
  have hs : SeqAt.shaped (.list (xs.map fun _ => PyData.int 1)) = true := by rw [h1]; exact ints_shaped _
  have he : PyData.eqv (.list (xs.map fun _ => PyData.int 1)) (.list []) = xs.isEmpty := by
    rw [h1, ints_nil]
    cases xs <;> rfl
  show Mo.of ((eqO (.lst (xs.map fun _ => .int 1)) (.lst [])).map D.bl) = _
  have hq : eqO (.lst (xs.map fun _ => .int 1)) (.lst []) = some xs.isEmpty := by
    unfold eqO
    have t1 : toPy (.lst (xs.map fun _ => .int 1)) = some (.list (xs.map fun _ => PyData.int 1)) := by
      show (toPyL (xs.map fun _ => D.int 1)).map PyData.list = _
      rw [hp] <;> rfl
    have t2 : toPy (.lst []) = some (.list []) := rfl
    rw [t1, t2]
    show (if SeqAt.shaped (.list (xs.map fun _ => PyData.int 1)) = true ∧ SeqAt.shaped (.list []) = true then some (PyData.eqv (.list (xs.map fun _ => PyData.int 1)) (.list [])) else none) = _
    rw [if_pos ⟨hs, rfl⟩, he]
  rw [hq] <;> rfl
theorem rng_i (k : Nat) (hk : k ≤ 1000000) : rngD 1 [.int (k : Int)] = pure ((List.range k).map fun i : Nat => D.int (i : Int)) := by
  show Mo.of (if Small (k : Int) then some ((List.range (k : Int).toNat).map fun i : Nat => D.int (0 + i)) else none) = _
  have hs : Small (k : Int) := ⟨by omega, by omega⟩
  rw [if_pos hs]
  simp
theorem chosen_ix (rows : List Row) (P : Row → Bool) : (List.range rows.length).filterMap (fun i => match rows[i]? with
    | some r => if P r = true then some (D.str r.1) else none
    | none => none) = (rows.filter P).map fun r => D.str r.1 := by
  induction rows with
  | nil => rfl
  | cons r rs ih =>
    rw [List.length_cons, List.range_succ_eq_map, List.filterMap_cons, List.filterMap_map]
    have e : ((fun i => match (r :: rs)[i]? with
      | some r => if P r = true then some (D.str r.1) else none
      | none => none) ∘ Nat.succ) = fun i => match rs[i]? with
      | some r => if P r = true then some (D.str r.1) else none
      | none => none := by
      funext i
      simp only [Function.comp, List.getElem?_cons_succ]
    rw [e, ih, List.filter_cons]
    by_cases c : P r = true
    · simp [c]
    · simp [c]
theorem lc_val (h : Pt m n rows p) (hl : rows.length ≤ 1000) : f_law_ln_chosen [dLn rows, dV p] = pure (.tup ((chosenW rows p).map fun r => .str r.1)) := by
  rw [c_law_ln_chosen, u_runB]
  have hw := lw_val h
  have hs := worths_sm h
  simp [-List.map_map, u_seqM, envOf, hw]
  rw [rng_i _ (by omega)]
  simp [-List.map_map]
  rw [comp_eq (f := fun d => match d with
    | .int i => (match rows[i.toNat]? with
      | some r => if decide (∀ r', r' ∈ rows → worthQ r'.2 p ≤ worthQ r.2 p) = true then some (D.str r.1) else none
      | none => none)
    | _ => none) (fun d hd => ?_)]
  · simp only [mo_pure_bind, tup_of_lst]
    congr 2
    rw [List.filterMap_map]
    unfold chosenW
    rw [← chosen_ix]
    rfl
  · obtain ⟨i, hi, rfl⟩ := List.mem_map.mp hd
    have hi := List.mem_range.mp hi
    have e1 : rows[i]? = some rows[i] := List.getElem?_eq_getElem hi
    have e2 : ixD (.lst ((rows.map fun r => worthQ r.2 p).map dQ)) (.int (i : Int)) = pure (dQ (worthQ rows[i].2 p)) := by
      rw [ixl_nat, List.getElem?_map, List.getElem?_map, e1] <;> rfl
    have e3 : ixD (dRows rows) (.int (i : Int)) = pure (dRow rows[i]) := by
      rw [ixt_nat, List.getElem?_map, e1] <;> rfl
    have si := hs (worthQ rows[i].2 p) (List.mem_map.mpr ⟨rows[i], List.getElem_mem hi, rfl⟩)
    simp [-List.map_map, wipeE]
    rw [comp_filter (e := dQ) (p := fun q => decide (worthQ rows[i].2 p < q)) (f := fun _ => .int 1) (fun q hq => by
      have sq := hs q hq
      simp [-List.map_map, wipeE, e2, lless_val si sq (Nat.le_refl _) (Nat.le_refl _)]
      split <;> rfl)]
    have ml : mkLst [] = pure (.lst []) := rfl
    simp only [mo_pure_bind, ml]
    rw [eq_ones]
    simp only [mo_pure_bind, toB_bl, nox_pure, e3, e1]
    have e4 : ixD (dRow rows[i]) (.int 0) = pure (.str rows[i].1) := rfl
    rw [e4]
    have e5 : (((rows.map fun r => worthQ r.2 p).filter fun q => decide (worthQ rows[i].2 p < q)).isEmpty = true) ↔ (∀ r', r' ∈ rows → worthQ r'.2 p ≤ worthQ rows[i].2 p) := by
      rw [List.isEmpty_iff, List.filter_eq_nil_iff]
      refine ⟨fun z r' hr' => ?_, fun z q hq => ?_⟩
      · have := z _ (List.mem_map.mpr ⟨r', hr', rfl⟩)
        rw [decide_eq_true_eq] at this
        exact Rat.not_lt.mp this
      · obtain ⟨r', h1, rfl⟩ := List.mem_map.mp hq
        rw [decide_eq_true_eq]
        exact Rat.not_lt.mpr (z r' h1)
    simp only [nox_pure, mo_pure_bind, decide_eq_true_eq]
    by_cases c : ∀ r', r' ∈ rows → worthQ r'.2 p ≤ worthQ rows[i].2 p
    · rw [if_pos (e5.mpr c), if_pos c]
    · rw [if_neg (fun z => c (e5.mp z)), if_neg c]
end
end TP
end

-- text K26
section
set_option maxHeartbeats 4000000
set_option autoImplicit false
namespace TP
open PySem PySem.Spec L2 TL
/-! ### texts compared -/
def okS (x : Str) : Prop := SeqAt.shaped (.str x) = true
theorem eq_str {x y : Str} (hx : okS x) (hy : okS y) : cmF .Eq (.str x) (.str y) = pure (.bl (decide (x = y))) ∧ cmF .NotEq (.str x) (.str y) = pure (.bl (!decide (x = y))) := by
  have e : eqO (.str x) (.str y) = some (decide (x = y)) := by
    unfold eqO
    show (if SeqAt.shaped (.str x) = true ∧ SeqAt.shaped (.str y) = true then some (PyData.eqv (.str x) (.str y)) else none) = _
    rw [if_pos ⟨hx, hy⟩]
    show some (x == y) = _
    congr 1
  refine ⟨?_, ?_⟩
  · show Mo.of ((eqO (.str x) (.str y)).map D.bl) = _
    rw [e] <;> rfl
  · show Mo.of ((eqO (.str x) (.str y)).map fun k => D.bl (!k)) = _
    rw [e] <;> rfl
/-! ### limits -/
/-- a slot that is bare or holds a datum -/
def okE (y : Sl) : Prop := y = .un ∨ ∃ d, y = .dat d
def limitQ (own f : List Rat) : List Rat × Rat := (subQ own.dropLast f.dropLast, lastQ f - lastQ own)
abbrev dLim (l : List Rat × Rat) : D := .tup [dV l.1, dQ l.2]
def limitsQ (rows : List Row) (w : Str) (own : List Rat) : List (List Rat × Rat) := (rows.filter fun r => !decide (r.1 = w)).map fun r => limitQ own r.2
/-- the rows, their words and sizes -/
structure Rw (m : Nat) (rows : List Row) : Prop where
  f : ∀ r, r ∈ rows → smV m r.2 ∧ 1 ≤ r.2.length
  w : ∀ r, r ∈ rows → okS r.1
  m : m + m ≤ 4400
  len : rows.length ≤ 1000
section
variable {m : Nat} {rows : List Row} {w : Str} {own : List Rat}
theorem own_first (h : Rw m rows) (hw : okS w) : (rows.filter fun r => decide (r.1 = w)) = [] ∨ ∃ r rs, (rows.filter fun r => decide (r.1 = w)) = r :: rs := by
  cases rows.filter fun r => decide (r.1 = w) with
  | nil => exact .inl rfl
  | cons r rs => exact .inr ⟨r, rs, rfl⟩
theorem limits_val (h : Rw m rows) (hw : okS w) {rs : List Row} {r0 : Row} (h0 : (rows.filter fun r => decide (r.1 = w)) = r0 :: rs) : f_limits_of [dLn rows, .str w] = pure (.tup ((limitsQ rows w r0.2).map dLim)) := by
  have hr0 : r0 ∈ rows := by
    have : r0 ∈ rows.filter fun r => decide (r.1 = w) := by rw [h0]; exact List.mem_cons_self ..
    exact (List.mem_filter.mp this).1
  obtain ⟨s0, l0⟩ := h.f r0 hr0
  rw [c_limits_of, u_runB]
  simp [u_seqM, envOf]
  rw [comp_filter (e := dRow) (p := fun r : Row => decide (r.1 = w)) (f := fun r : Row => dV r.2) (fun r hr => by
    simp [wipeE, (eq_str (h.w r hr) hw).1]
    split <;> rfl)]
  rw [h0]
  have e0 : ixD (.lst ((r0 :: rs).map fun r : Row => dV r.2)) (.int 0) = pure (dV r0.2) := ixl_nat _ 0
  simp only [mo_pure_bind]
  rw [e0]
  simp
  refine for_bind (fun i env => ∃ y3 y4, okE y3 ∧ okE y4 ∧ env = [.dat (dLn rows), .dat (.str w), .dat (dV r0.2), y3, y4, .cel ((limitsQ (rows.take i) w r0.2).map dLim)]) ⟨.un, .un, .inl rfl, .inl rfl, rfl⟩ (fun i d env hd hi => ?_) (fun env' hi => ?_)
  · obtain ⟨y3, y4, _, _, rfl⟩ := hi
    rw [List.getElem?_map] at hd
    obtain ⟨r, e1, rfl⟩ := Option.map_eq_some_iff.mp hd
    have hr := List.mem_of_getElem? e1
    obtain ⟨s1, l1⟩ := h.f r hr
    refine ⟨_, _, rfl, ?_, .dat (.str r.1), .dat (dV r.2), .inr ⟨_, rfl⟩, .inr ⟨_, rfl⟩, rfl⟩
    have k1 := (eq_str (h.w r hr) hw).2
    have k2 := sl_dV l0
    have k3 := sl_dV l1
    have k4 := ix_last l0
    have k5 := ix_last l1
    have k6 := apart_val (smV_drop s0) (smV_drop s1) h.m
    have k7 := minus_val (smV_last s1 l1) (smV_last s0 l0) (by have := h.m; omega) (by have := h.m; omega)
    have lt : (limitsQ (rows.take i) w r0.2).length ≤ 1000 := by
      unfold limitsQ
      rw [List.length_map]
      exact Nat.le_trans (List.length_filter_le ..) (Nat.le_trans (by rw [List.length_take]; exact Nat.min_le_right ..) h.len)
    have lt2 : (limitsQ (rows.take i) w r0.2).length ≤ lim := Nat.le_trans lt (by decide)
    have e2 : limitsQ (rows.take (i + 1)) w r0.2 = limitsQ (rows.take i) w r0.2 ++ (if r.1 = w then [] else [limitQ r0.2 r.2]) := by
      unfold limitsQ
      rw [List.take_add_one, e1, List.filter_append, List.map_append]
      congr 1
      show ([r].filter _).map _ = _
      rw [List.filter_cons]
      by_cases c : r.1 = w
      · simp [c]
      · simp [c]
    by_cases c : r.1 = w
    · have k1' : cmF .NotEq (.str r.1) (.str w) = pure (.bl false) := by rw [k1, decide_eq_true c] <;> rfl
      rw [e2, if_pos c]
      simp [u_seqM, k1']
    · have k1' : cmF .NotEq (.str r.1) (.str w) = pure (.bl true) := by rw [k1, decide_eq_false c] <;> rfl
      rw [e2, if_neg c]
      simp [u_seqM, k1', intO, k2, k3, k4, k5, k6, k7, lt2, limitQ]
  · obtain ⟨y3, y4, h3, h4, rfl⟩ := hi
    rw [List.length_map, List.take_length]
    rcases h3 with rfl | ⟨d3, rfl⟩ <;> rcases h4 with rfl | ⟨d4, rfl⟩ <;> simp
end
end TP
end

-- text K27
section
set_option maxHeartbeats 4000000
set_option autoImplicit false
namespace TP
open PySem PySem.Spec L2 TL
section
variable {m : Nat} {rows : List Row} {w : Str} {own : List Rat}
theorem llimits_val (h : Rw m rows) (hw : okS w) {rs : List Row} {r0 : Row} (h0 : (rows.filter fun r => decide (r.1 = w)) = r0 :: rs) : f_law_ln_limits [dLn rows, .str w] = pure (.tup ((limitsQ rows w r0.2).map dLim)) := by
  have hr0 : r0 ∈ rows := by
    have : r0 ∈ rows.filter fun r => decide (r.1 = w) := by rw [h0]; exact List.mem_cons_self ..
    exact (List.mem_filter.mp this).1
  obtain ⟨s0, l0⟩ := h.f r0 hr0
  rw [c_law_ln_limits, u_runB]
  simp [u_seqM, envOf]
  rw [comp_filter (e := dRow) (p := fun r : Row => decide (r.1 = w)) (f := fun r : Row => dV r.2) (fun r hr => by
    simp [wipeE, (eq_str (h.w r hr) hw).1]
    split <;> rfl)]
  rw [h0]
  have e0 : ixD (.lst ((r0 :: rs).map fun r : Row => dV r.2)) (.int 0) = pure (dV r0.2) := ixl_nat _ 0
  simp only [mo_pure_bind]
  rw [e0]
  simp
  refine for_bind (fun i env => ∃ y3 y4 y6 y7, okE y3 ∧ okE y4 ∧ okE y6 ∧ okE y7 ∧ env = [.dat (dLn rows), .dat (.str w), .dat (dV r0.2), y3, y4, .cel ((limitsQ (rows.take i) w r0.2).map dLim), y6, y7]) ⟨.un, .un, .un, .un, .inl rfl, .inl rfl, .inl rfl, .inl rfl, rfl⟩ (fun i d env hd hi => ?_) (fun env' hi => ?_)
  · obtain ⟨y3, y4, y6, y7, h3, h4, h6, h7, rfl⟩ := hi
    rw [List.getElem?_map] at hd
    obtain ⟨r, e1, rfl⟩ := Option.map_eq_some_iff.mp hd
    have hr := List.mem_of_getElem? e1
    obtain ⟨s1, l1⟩ := h.f r hr
    refine ⟨_, _, rfl, ?_, .dat (.str r.1), .dat (dV r.2), y6, y7, .inr ⟨_, rfl⟩, .inr ⟨_, rfl⟩, h6, h7, rfl⟩
    have k1 := (eq_str (h.w r hr) hw).2
    have k2 := sl_dV l0
    have k3 := sl_dV l1
    have k4 := ix_last l0
    have k5 := ix_last l1
    have k7 := lminus_val (smV_last s1 l1) (smV_last s0 l0) (by have := h.m; omega) (by have := h.m; omega)
    have lt : (limitsQ (rows.take i) w r0.2).length ≤ 1000 := by
      unfold limitsQ
      rw [List.length_map]
      exact Nat.le_trans (List.length_filter_le ..) (Nat.le_trans (by rw [List.length_take]; exact Nat.min_le_right ..) h.len)
    have lt2 : (limitsQ (rows.take i) w r0.2).length ≤ lim := Nat.le_trans lt (by decide)
    have e2 : limitsQ (rows.take (i + 1)) w r0.2 = limitsQ (rows.take i) w r0.2 ++ (if r.1 = w then [] else [limitQ r0.2 r.2]) := by
      unfold limitsQ
      rw [List.take_add_one, e1, List.filter_append, List.map_append]
      congr 1
      show ([r].filter _).map _ = _
      rw [List.filter_cons]
      by_cases c : r.1 = w
      · simp [c]
      · simp [c]
    by_cases c : r.1 = w
    · have k1' : cmF .NotEq (.str r.1) (.str w) = pure (.bl false) := by rw [k1, decide_eq_true c] <;> rfl
      rw [e2, if_pos c]
      simp [u_seqM, k1']
    · have k1' : cmF .NotEq (.str r.1) (.str w) = pure (.bl true) := by rw [k1, decide_eq_false c] <;> rfl
      rw [e2, if_neg c]
      simp [-List.map_map, -List.map_dropLast, u_seqM, k1', intO, k2, k3, k4, k5, k7]
      rw [pairs_map, comp_map (f := fun p => dQ (p.1 - p.2)) (fun p hp => by
        obtain ⟨h1, h2⟩ := zip_sm (smV_drop s0) (smV_drop s1) hp
        have k8 := lminus_val h1 h2 (by have := h.m; omega) (by have := h.m; omega)
        rcases h6 with rfl | ⟨d6, rfl⟩ <;> rcases h7 with rfl | ⟨d7, rfl⟩ <;> simp [-List.map_map, wipeE, k8])]
      have ed : dV (subQ r0.2.dropLast r.2.dropLast) = .tup ((r0.2.dropLast.zip r.2.dropLast).map fun p => dQ (p.1 - p.2)) := by
        show D.tup ((subQ r0.2.dropLast r.2.dropLast).map dQ) = _
        unfold subQ
        rw [List.map_map] <;> rfl
      simp [-List.map_map, -List.map_dropLast, limitQ, lt2]
      rw [← ed]
  · obtain ⟨y3, y4, y6, y7, h3, h4, h6, h7, rfl⟩ := hi
    rw [List.length_map, List.take_length]
    rcases h3 with rfl | ⟨d3, rfl⟩ <;> rcases h4 with rfl | ⟨d4, rfl⟩ <;> rcases h6 with rfl | ⟨d6, rfl⟩ <;> rcases h7 with rfl | ⟨d7, rfl⟩ <;> simp
end
end TP
end

-- text K28
section
set_option maxHeartbeats 4000000
set_option autoImplicit false
namespace TP
open PySem PySem.Spec L2 TL
/-! ### any values, told by kind -/
mutual
def nice : D → Bool
  | .non => true
  | .bl _ => true
  | .dnil => true
  | .int i => decide (i.natAbs < 2 ^ 4000)
  | .str x => SeqAt.shaped (.str x) && decide (x.length ≤ 1000)
  | .tup xs => nices xs
  | .lst xs => nices xs
  | _ => false
def nices : List D → Bool
  | [] => true
  | x :: xs => nice x && nices xs
end
theorem nices_all : ∀ {xs : List D}, nices xs = true → ∀ x, x ∈ xs → nice x = true
  | x :: xs, h, y, hy => by
    have h : (nice x && nices xs) = true := h
    rw [Bool.and_eq_true] at h
    rcases List.mem_cons.mp hy with rfl | hy
    · exact h.1
    · exact nices_all h.2 y hy
def isT : D → Bool
  | .tup _ => true
  | _ => false
def isS : D → Bool
  | .str _ => true
  | _ => false
def isI : D → Bool
  | .int _ => true
  | .bl _ => true
  | _ => false
def isB : D → Bool
  | .bl _ => true
  | _ => false
def isL : D → Bool
  | .lst _ => true
  | _ => false
theorem i_tup {d : D} (h : nice d = true) : isiO "tuple" d = some (isT d) := by
  cases d <;> first | (exact absurd h Bool.false_ne_true) | (simp only [isiO, tyN, Option.bind_some, isT]; decide +kernel)
theorem i_str {d : D} (h : nice d = true) : isiO "str" d = some (isS d) := by
  cases d <;> first | (exact absurd h Bool.false_ne_true) | (simp only [isiO, tyN, Option.bind_some, isS]; decide +kernel)
theorem i_int {d : D} (h : nice d = true) : isiO "int" d = some (isI d) := by
  cases d <;> first | (exact absurd h Bool.false_ne_true) | (simp only [isiO, tyN, Option.bind_some, isI]; decide +kernel)
theorem i_bool {d : D} (h : nice d = true) : isiO "bool" d = some (isB d) := by
  cases d <;> first | (exact absurd h Bool.false_ne_true) | (simp only [isiO, tyN, Option.bind_some, isB]; decide +kernel)
theorem i_list {d : D} (h : nice d = true) : isiO "list" d = some (isL d) := by
  cases d <;> first | (exact absurd h Bool.false_ne_true) | (simp only [isiO, tyN, Option.bind_some, isL]; decide +kernel)
theorem isT_eq {d : D} (h : isT d = true) : ∃ xs, d = .tup xs := by
  cases d <;> first | exact ⟨_, rfl⟩ | exact absurd h Bool.false_ne_true
theorem isS_eq {d : D} (h : isS d = true) : ∃ x, d = .str x := by
  cases d <;> first | exact ⟨_, rfl⟩ | exact absurd h Bool.false_ne_true
def whole : D → Bool
  | .int _ => true
  | _ => false
theorem whole_val {d : D} (h : nice d = true) : f_is_whole [d] = pure (.bl (whole d)) := by
  rw [c_is_whole, u_runB]
  simp [u_seqM, envOf, i_int h, i_bool h]
  cases d <;> rfl
theorem all_bl {α : Type} (p : α → Bool) (xs : List α) : allD [.lst (xs.map fun x => .bl (p x))] = pure (.bl (xs.all p)) := by
  have e : blsO (xs.map fun x => D.bl (p x)) = some (xs.map p) := by
    induction xs with
    | nil => rfl
    | cons x xs ih =>
      show (blsO (xs.map fun x => D.bl (p x))).map (p x :: ·) = _
      rw [ih] <;> rfl
  show Mo.of ((blsO (xs.map fun x => D.bl (p x))).map fun bs => D.bl (bs.all id)) = _
  rw [e]
  show (pure (D.bl ((xs.map p).all id)) : Mo D) = _
  rw [List.all_map] <;> rfl
theorem any_bl {α : Type} (p : α → Bool) (xs : List α) : anyD [.lst (xs.map fun x => .bl (p x))] = pure (.bl (xs.any p)) := by
  have e : blsO (xs.map fun x => D.bl (p x)) = some (xs.map p) := by
    induction xs with
    | nil => rfl
    | cons x xs ih =>
      show (blsO (xs.map fun x => D.bl (p x))).map (p x :: ·) = _
      rw [ih] <;> rfl
  show Mo.of ((blsO (xs.map fun x => D.bl (p x))).map fun bs => D.bl (bs.any id)) = _
  rw [e]
  show (pure (D.bl ((xs.map p).any id)) : Mo D) = _
  rw [List.any_map] <;> rfl
def isRat : D → Bool
  | .tup [.int n, .int d] => decide (0 < d) && decide (Nat.gcd n.natAbs d.natAbs = 1)
  | _ => false
theorem comp_self {one : D → Mo (Option D)} {f : D → D} {xs : List D} (h : ∀ x, x ∈ xs → one x = pure (some (f x))) : compGo one xs = pure (xs.map f) := by
  have := comp_map (e := fun x : D => x) h
  rw [List.map_id'] at this
  exact this
theorem comp_pick {one : D → Mo (Option D)} {p : D → Bool} {f : D → D} {xs : List D} (h : ∀ x, x ∈ xs → one x = pure (if p x = true then some (f x) else none)) : compGo one xs = pure ((xs.filter p).map f) := by
  have := comp_filter (e := fun x : D => x) h
  rw [List.map_id'] at this
  exact this
theorem nice_int (i : Int) (h : i.natAbs < 2 ^ 4000) : nice (.int i) = true := decide_eq_true h
theorem whole_eq {d : D} (h : whole d = true) : ∃ i, d = .int i := by
  cases d <;> first | exact ⟨_, rfl⟩ | exact absurd h Bool.false_ne_true
theorem len2 {xs : List D} (h : xs.length = 2) : ∃ a b, xs = [a, b] := by
  match xs, h with
  | [a, b], _ => exact ⟨a, b, rfl⟩
theorem isRat_len {xs : List D} (h : xs.length ≠ 2) : isRat (.tup xs) = false := by
  match xs, h with
  | [], _ => rfl
  | [_], _ => cases ‹D› <;> rfl
  | [a, b], h => exact absurd rfl h
  | a :: b :: c :: r, _ => cases a <;> cases b <;> rfl
theorem isRat_not {a b : D} (h : (whole a && whole b) = false) : isRat (.tup [a, b]) = false := by
  cases a <;> cases b <;> first | rfl | cases h
theorem isRat_isT {d : D} (h : isT d = false) : isRat d = false := by
  cases d <;> first | rfl | cases h
theorem ratio_val {d : D} (h : nice d = true) : f_is_ratio [d] = pure (.bl (isRat d)) := by
  rw [c_is_ratio, u_runB]
  simp [u_seqM, envOf, i_tup h]
  by_cases ht : isT d = true
  · obtain ⟨xs, rfl⟩ := isT_eq ht
    have hx := nices_all (show nices xs = true from h)
    simp [ht]
    by_cases c : xs.length = 2
    · obtain ⟨a, b, rfl⟩ := len2 c
      rw [comp_self (f := fun y => .bl (whole y)) (fun y hy => by simp [wipeE, whole_val (hx y hy)])]
      simp only [mo_pure_bind]
      rw [all_bl whole]
      by_cases hw : (whole a && whole b) = true
      · have hw' := hw
        rw [Bool.and_eq_true] at hw'
        obtain ⟨n, rfl⟩ := whole_eq hw'.1
        obtain ⟨k, rfl⟩ := whole_eq hw'.2
        simp [whole, isRat]
        have e : (((n.natAbs.gcd k.natAbs : Nat) : Int) == 1) = decide (n.natAbs.gcd k.natAbs = 1) := by
          rw [Bool.eq_iff_iff]
          simp
          omega
        by_cases c : 0 < k
        · simp [c, e]
        · simp [c]
      · rw [Bool.not_eq_true] at hw
        rw [isRat_not hw]
        have : List.all [a, b] whole = false := by simp only [List.all_cons, List.all_nil, Bool.and_true, hw]
        rw [this]
        simp
    · have : ¬ (xs.length : Int) = 2 := by omega
      rw [isRat_len c]
      simp [c, this]
  · rw [Bool.not_eq_true] at ht
    simp [ht, isRat_isT ht]
theorem ne_ones {α : Type} (xs : List α) : cmF .NotEq (.lst (xs.map fun _ => .int 1)) (.lst []) = pure (.bl (!xs.isEmpty)) := by
  have h := eq_ones xs
  have h : Mo.of ((eqO (.lst (xs.map fun _ => D.int 1)) (.lst [])).map D.bl) = pure (.bl xs.isEmpty) := h
  show Mo.of ((eqO (.lst (xs.map fun _ => D.int 1)) (.lst [])).map fun k => D.bl (!k)) = _
  cases e : eqO (.lst (xs.map fun _ => D.int 1)) (.lst []) with
  | none =>
    rw [e] at h
    have := congrFun h none
    cases this
  | some b =>
    rw [e] at h
    have := congrFun h none
    injection this with h1
    injection h1 with h1
    rw [h1] <;> rfl
theorem eq_two (a b c d : Int) : cmF .Eq (.tup [.int a, .int b]) (.tup [.int c, .int d]) = pure (.bl (decide (a = c) && decide (b = d))) := by
  have e : cmF .Eq (.tup [.int a, .int b]) (.tup [.int c, .int d]) = pure (.bl ((a == c) && ((b == d) && true))) := rfl
  rw [e, Bool.and_true] <;> rfl
theorem low_iff (n k : Int) (hk : 0 < k) : ((Rat.divInt n k).num = n ∧ ((Rat.divInt n k).den : Int) = k) ↔ Nat.gcd n.natAbs k.natAbs = 1 := by
  obtain ⟨h1, h2⟩ := low_parts n k (by omega) (Nat.gcd n.natAbs k.natAbs : Int) (by rw [if_pos hk])
  constructor
  · intro ⟨e1, e2⟩
    have := (Rat.divInt n k).reduced
    rw [e1] at this
    have e3 : (Rat.divInt n k).den = k.natAbs := by omega
    rw [e3] at this
    exact this
  · intro e
    rw [e] at h1 h2
    rw [← h1, ← h2]
    simp
theorem lratio_val {d : D} (h : nice d = true) : f_law_ph_is_ratio [d] = pure (.bl (isRat d)) := by
  rw [c_law_ph_is_ratio, u_runB]
  simp [u_seqM, envOf, i_tup h]
  by_cases ht : isT d = true
  · obtain ⟨xs, rfl⟩ := isT_eq ht
    have hx := nices_all (show nices xs = true from h)
    simp [ht]
    by_cases c : xs.length = 2
    · obtain ⟨a, b, rfl⟩ := len2 c
      have ew : ∀ y, (!isI y || isB y) = !whole y := fun y => by cases y <;> rfl
      rw [comp_pick (p := fun y => !whole y) (f := fun _ => .int 1) (fun y hy => by
        have := ew y
        simp [wipeE, i_int (hx y hy), i_bool (hx y hy)]
        cases y <;> rfl)]
      have ml : mkLst [] = pure (.lst []) := rfl
      simp only [mo_pure_bind, ml]
      rw [ne_ones]
      by_cases hw : (whole a && whole b) = true
      · have hw' := hw
        rw [Bool.and_eq_true] at hw'
        obtain ⟨n, rfl⟩ := whole_eq hw'.1
        obtain ⟨k, rfl⟩ := whole_eq hw'.2
        have hk : k.natAbs < 2 ^ 4000 := of_decide_eq_true (hx (.int k) (List.mem_cons_of_mem _ (List.mem_cons_self ..)))
        simp [whole, isRat]
        by_cases c : 0 < k
        · rw [q_val (by omega) (Nat.lt_of_lt_of_le hk (Nat.pow_le_pow_right (by decide) (by decide)))]
          simp [c]
          rw [eq_two]
          congr 2
          rw [Bool.eq_iff_iff]
          simp only [Bool.and_eq_true, decide_eq_true_eq]
          exact low_iff n k c
        · simp [c]
      · rw [Bool.not_eq_true] at hw
        rw [isRat_not hw]
        have : ([a, b].filter fun y => !whole y).isEmpty = false := by
          cases ha : whole a with
          | false => simp [ha]
          | true =>
            rw [ha, Bool.true_and] at hw
            simp [ha, hw]
        rw [this]
        simp
    · have : ¬ (xs.length : Int) = 2 := by omega
      rw [isRat_len c]
      simp [c, this]
  · rw [Bool.not_eq_true] at ht
    simp [ht, isRat_isT ht]
end TP
end

-- text K29
section
set_option maxHeartbeats 4000000
set_option autoImplicit false
namespace TP
open PySem PySem.Spec L2 TL
def isVec (d : D) : Bool := match d with
  | .tup xs => (decide (1 ≤ xs.length) && decide (xs.length ≤ 200)) && xs.all isRat
  | _ => false
theorem vector_val {d : D} (h : nice d = true) : f_is_vector [d] = pure (.bl (isVec d)) := by
  rw [c_is_vector, u_runB]
  simp [u_seqM, envOf, i_tup h]
  by_cases ht : isT d = true
  · obtain ⟨xs, rfl⟩ := isT_eq ht
    have hx := nices_all (show nices xs = true from h)
    simp [ht]
    rw [comp_self (f := fun y => .bl (isRat y)) (fun y hy => by simp [wipeE, ratio_val (hx y hy)])]
    simp only [mo_pure_bind]
    rw [all_bl isRat]
    unfold isVec
    by_cases c1 : 1 ≤ xs.length
    · by_cases c2 : xs.length ≤ 200
      · have : (xs.length : Int) ≤ 200 := by omega
        have : (1 : Int) ≤ xs.length := by omega
        simp [*]
      · have : ¬ (xs.length : Int) ≤ 200 := by omega
        have : (1 : Int) ≤ xs.length := by omega
        simp [*]
    · have : ¬ (1 : Int) ≤ xs.length := by omega
      simp [*]
  · rw [Bool.not_eq_true] at ht
    have : isVec d = false := by cases d <;> first | rfl | cases ht
    simp [ht, this]
def isVecN (n : Nat) (d : D) : Bool := match d with
  | .tup xs => decide (xs.length = n) && xs.all isRat
  | _ => false
theorem filter_not {α : Type} (p : α → Bool) (xs : List α) : (xs.filter fun x => !p x).isEmpty = xs.all p := by
  induction xs with
  | nil => rfl
  | cons x xs ih =>
    rw [List.filter_cons, List.all_cons]
    cases p x with
    | true => simpa using ih
    | false => rfl
theorem lvector_val {d : D} (h : nice d = true) (n : Nat) : f_law_ph_is_vector [d, .int (n : Int)] = pure (.bl (isVecN n d)) := by
  rw [c_law_ph_is_vector, u_runB]
  simp [u_seqM, envOf, i_tup h]
  by_cases ht : isT d = true
  · obtain ⟨xs, rfl⟩ := isT_eq ht
    have hx := nices_all (show nices xs = true from h)
    simp [ht]
    rw [comp_pick (p := fun y => !isRat y) (f := fun _ => .int 1) (fun y hy => by
      simp [wipeE, lratio_val (hx y hy)]
      cases isRat y <;> rfl)]
    have ml : mkLst [] = pure (.lst []) := rfl
    simp only [mo_pure_bind, ml]
    rw [eq_ones, filter_not]
    unfold isVecN
    by_cases c : xs.length = n
    · subst c
      simp
    · have : ((xs.length : Int) == (n : Int)) = false := beq_eq_false_iff_ne.mpr (by omega)
      simp [this, c]
      intro z
      omega
  · rw [Bool.not_eq_true] at ht
    have : isVecN n d = false := by cases d <;> first | rfl | cases ht
    simp [ht, this]
/-! ### values that can be compared -/
mutual
def good : D → Bool
  | .non => true
  | .bl _ => true
  | .int i => decide (i.natAbs < 2 ^ 4000)
  | .str x => SeqAt.shaped (.str x) && decide (x.length ≤ 1000)
  | .tup xs => goods xs
  | .lst xs => goods xs
  | _ => false
def goods : List D → Bool
  | [] => true
  | x :: xs => good x && goods xs
end
mutual
def dep : D → Nat
  | .tup xs => deps xs + 1
  | .lst xs => deps xs + 1
  | _ => 0
def deps : List D → Nat
  | [] => 0
  | x :: xs => max (dep x) (deps xs)
end
mutual
theorem good_py : ∀ d, good d = true → ∃ y, toPy d = some y ∧ y.canLay0 = true ∧ y.depth ≤ dep d
  | .non, _ => ⟨_, rfl, rfl, Nat.le_refl _⟩
  | .bl _, _ => ⟨_, rfl, rfl, Nat.le_refl _⟩
  | .int _, _ => ⟨_, rfl, rfl, Nat.le_refl _⟩
  | .str x, h => by
    have h : (SeqAt.shaped (.str x) && decide (x.length ≤ 1000)) = true := h
    rw [Bool.and_eq_true] at h
    exact ⟨_, rfl, SeqAt.canLay_of_shaped h.1, Nat.le_refl _⟩
  | .tup xs, h => by
    obtain ⟨ys, e1, e2, e3⟩ := goods_py xs h
    exact ⟨.tuple ys, by show (toPyL xs).map PyData.tuple = _; rw [e1] <;> rfl, e2, Nat.succ_le_succ e3⟩
  | .lst xs, h => by
    obtain ⟨ys, e1, e2, e3⟩ := goods_py xs h
    exact ⟨.list ys, by show (toPyL xs).map PyData.list = _; rw [e1] <;> rfl, e2, Nat.succ_le_succ e3⟩
  | .scr _, h => absurd h Bool.false_ne_true
  | .dnil, h => absurd h Bool.false_ne_true
  | .ptr _, h => absurd h Bool.false_ne_true
theorem goods_py : ∀ xs, goods xs = true → ∃ ys, toPyL xs = some ys ∧ PyData.canLayAll0 ys = true ∧ PyData.depthAll ys ≤ deps xs
  | [], _ => ⟨[], rfl, rfl, Nat.le_refl _⟩
  | x :: xs, h => by
    have h : (good x && goods xs) = true := h
    rw [Bool.and_eq_true] at h
    obtain ⟨y, a1, a2, a3⟩ := good_py x h.1
    obtain ⟨ys, b1, b2, b3⟩ := goods_py xs h.2
    refine ⟨y :: ys, ?_, ?_, ?_⟩
    · show (match toPy x, toPyL xs with
        | some y, some ys => some (y :: ys)
        | _, _ => none) = _
      rw [a1, b1]
    · show (y.canLay0 && PyData.canLayAll0 ys) = true
      rw [a2, b2] <;> rfl
    · show max y.depth (PyData.depthAll ys) ≤ max (dep x) (deps xs)
      omega
end
theorem good_shaped {d : D} (h : good d = true) (hd : dep d ≤ 64) : ∃ y, toPy d = some y ∧ SeqAt.shaped y = true := by
  obtain ⟨y, e1, e2, e3⟩ := good_py d h
  refine ⟨y, e1, ?_⟩
  show (y.canLay0 && decide (y.depth ≤ 64)) = true
  rw [e2, decide_eq_true (by omega)] <;> rfl
theorem eqO_lnil {xs : List D} (h : goods xs = true) (hd : deps xs ≤ 60) : eqO (.lst xs) (.lst []) = some xs.isEmpty := by
  obtain ⟨y, e1, e2⟩ := good_shaped (d := .lst xs) h (by show deps xs + 1 ≤ 64; omega)
  unfold eqO
  rw [e1]
  show (if SeqAt.shaped y = true ∧ SeqAt.shaped (.list []) = true then some (PyData.eqv y (.list [])) else none) = _
  rw [if_pos ⟨e2, rfl⟩]
  obtain ⟨ys, f1, f2⟩ := Option.map_eq_some_iff.mp (show (toPyL xs).map PyData.list = some y from e1)
  subst f2
  cases xs with
  | nil => cases f1; rfl
  | cons x xs =>
    cases ys with
    | nil =>
      have f1 : (match toPy x, toPyL xs with
        | some y, some ys => some (y :: ys)
        | _, _ => none) = some [] := f1
      split at f1 <;> cases f1
    | cons z zs => rfl
theorem eqO_tnil {xs : List D} (h : goods xs = true) (hd : deps xs ≤ 60) : eqO (.tup xs) (.tup []) = some xs.isEmpty := by
  obtain ⟨y, e1, e2⟩ := good_shaped (d := .tup xs) h (by show deps xs + 1 ≤ 64; omega)
  unfold eqO
  rw [e1]
  show (if SeqAt.shaped y = true ∧ SeqAt.shaped (.tuple []) = true then some (PyData.eqv y (.tuple [])) else none) = _
  rw [if_pos ⟨e2, rfl⟩]
  obtain ⟨ys, f1, f2⟩ := Option.map_eq_some_iff.mp (show (toPyL xs).map PyData.tuple = some y from e1)
  subst f2
  cases xs with
  | nil => cases f1; rfl
  | cons x xs =>
    cases ys with
    | nil =>
      have f1 : (match toPy x, toPyL xs with
        | some y, some ys => some (y :: ys)
        | _, _ => none) = some [] := f1
      split at f1 <;> cases f1
    | cons z zs => rfl
end TP
end

-- text K30
section
set_option maxHeartbeats 4000000
set_option autoImplicit false
namespace TP
open PySem PySem.Spec L2 TL
abbrev letters : Str := "abcdefghijklmnopqrstuvwxyz"
def isLet (c : Nat) : Bool := decide (c ∈ letters.cps.toList)
def isWd (d : D) : Bool := match d with
  | .str x => (decide (1 ≤ x.length) && decide (x.length ≤ 8)) && x.cps.toList.all isLet
  | _ => false
theorem in_let (c : Nat) : cmF .In (.str ⟨#[c]⟩) (.str letters) = pure (.bl (isLet c)) := rfl
theorem nin_let (c : Nat) : cmF .NotIn (.str ⟨#[c]⟩) (.str letters) = pure (.bl (!isLet c)) := rfl
theorem it_str {x : Str} (h : x.length ≤ 1000) : itemsD (.str x) = pure (x.cps.toList.map fun c => .str ⟨#[c]⟩) := by
  show Mo.of (if x.length ≤ lim then some (x.cps.toList.map fun c => D.str ⟨#[c]⟩) else none) = _
  rw [if_pos (Nat.le_trans h (by decide))] <;> rfl
theorem len_str {x : Str} (h : x.length ≤ 1000) : lenD [.str x] = pure (.int (x.length : Int)) := by
  show Mo.of ((if x.length ≤ lim then some x.length else none).map fun n : Nat => D.int (n : Int)) = _
  rw [if_pos (Nat.le_trans h (by decide))] <;> rfl
theorem nice_str {x : Str} (h : nice (.str x) = true) : SeqAt.shaped (.str x) = true ∧ x.length ≤ 1000 := by
  have h : (SeqAt.shaped (.str x) && decide (x.length ≤ 1000)) = true := h
  rw [Bool.and_eq_true] at h
  exact ⟨h.1, of_decide_eq_true h.2⟩
theorem word_val {d : D} (h : nice d = true) : f_is_word [d] = pure (.bl (isWd d)) := by
  rw [c_is_word, u_runB]
  simp [u_seqM, envOf, i_str h]
  by_cases ht : isS d = true
  · obtain ⟨x, rfl⟩ := isS_eq ht
    obtain ⟨h1, h2⟩ := nice_str h
    simp [ht, len_str h2, it_str h2]
    rw [comp_map (e := fun c : Nat => D.str ⟨#[c]⟩) (f := fun c => .bl (isLet c)) (fun c hc => by simp [wipeE, in_let])]
    simp only [mo_pure_bind]
    rw [all_bl isLet]
    unfold isWd
    by_cases c1 : 1 ≤ x.length
    · by_cases c2 : x.length ≤ 8
      · have : (x.length : Int) ≤ 8 := by omega
        have : (1 : Int) ≤ x.length := by omega
        simp [*]
      · have : ¬ (x.length : Int) ≤ 8 := by omega
        have : (1 : Int) ≤ x.length := by omega
        simp [*]
    · have : ¬ (1 : Int) ≤ x.length := by omega
      simp [*]
  · rw [Bool.not_eq_true] at ht
    have : isWd d = false := by cases d <;> first | rfl | cases ht
    simp [ht, this]
theorem one_shaped {x : Str} (h : SeqAt.shaped (.str x) = true) {c : Nat} (hc : c ∈ x.cps.toList) : good (.str ⟨#[c]⟩) = true := by
  have h1 : (x.cps.all (· < 0x110000)) = true := SeqAt.canLay_of_shaped h
  rw [← Array.all_toList, List.all_eq_true] at h1
  have h2 := h1 c hc
  show (SeqAt.shaped (.str ⟨#[c]⟩) && decide ((1 : Nat) ≤ 1000)) = true
  have : SeqAt.shaped (.str ⟨#[c]⟩) = true := by
    show (((#[c] : Array Nat).all (· < 0x110000)) && decide ((0 : Nat) ≤ 64)) = true
    rw [← Array.all_toList]
    simpa using h2
  rw [this] <;> rfl
theorem goods_of {xs : List D} (h : ∀ x, x ∈ xs → good x = true) : goods xs = true := by
  induction xs with
  | nil => rfl
  | cons x xs ih =>
    show (good x && goods xs) = true
    rw [h x (List.mem_cons_self ..), ih (fun y hy => h y (List.mem_cons_of_mem _ hy))] <;> rfl
theorem deps_of {k : Nat} {xs : List D} (h : ∀ x, x ∈ xs → dep x ≤ k) : deps xs ≤ k := by
  induction xs with
  | nil => exact Nat.zero_le _
  | cons x xs ih =>
    show max (dep x) (deps xs) ≤ k
    have := h x (List.mem_cons_self ..)
    have := ih (fun y hy => h y (List.mem_cons_of_mem _ hy))
    omega
theorem lword_val {d : D} (h : nice d = true) : f_law_is_word [d] = pure (.bl (isWd d)) := by
  rw [c_law_is_word, u_runB]
  simp [u_seqM, envOf, i_str h]
  by_cases ht : isS d = true
  · obtain ⟨x, rfl⟩ := isS_eq ht
    obtain ⟨h1, h2⟩ := nice_str h
    simp [ht, len_str h2, it_str h2]
    rw [comp_filter (e := fun c : Nat => D.str ⟨#[c]⟩) (p := fun c => !isLet c) (f := fun c => .str ⟨#[c]⟩) (fun c hc => by
      simp [wipeE, nin_let]
      cases isLet c <;> rfl)]
    have ml : mkLst [] = pure (.lst []) := rfl
    simp only [mo_pure_bind, ml]
    have e : cmF .Eq (.lst ((x.cps.toList.filter fun c => !isLet c).map fun c => D.str ⟨#[c]⟩)) (.lst []) = pure (.bl (x.cps.toList.all isLet)) := by
      show Mo.of ((eqO _ _).map D.bl) = _
      rw [eqO_lnil (goods_of fun y hy => by
        obtain ⟨c, hc, rfl⟩ := List.mem_map.mp hy
        exact one_shaped h1 (List.mem_filter.mp hc).1) (deps_of fun y hy => by
        obtain ⟨c, hc, rfl⟩ := List.mem_map.mp hy
        exact Nat.zero_le _)]
      rw [List.isEmpty_map, filter_not] <;> rfl
    rw [e]
    unfold isWd
    by_cases c1 : 1 ≤ x.length
    · by_cases c2 : x.length ≤ 8
      · have : (x.length : Int) ≤ 8 := by omega
        have : (1 : Int) ≤ x.length := by omega
        simp [*]
      · have : ¬ (x.length : Int) ≤ 8 := by omega
        have : (1 : Int) ≤ x.length := by omega
        simp [*]
    · have : ¬ (1 : Int) ≤ x.length := by omega
      simp [*]
  · rw [Bool.not_eq_true] at ht
    have : isWd d = false := by cases d <;> first | rfl | cases ht
    simp [ht, this]
end TP
end

-- text K31
section
set_option maxHeartbeats 4000000
set_option autoImplicit false
namespace TP
open PySem PySem.Spec L2 TL
def vlen : D → Nat
  | .tup [_, .tup v] => v.length
  | _ => 0
def isLine (d : D) : Bool := match d with
  | .tup [w, .tup v] => (isWd w && isVec (.tup v)) && (decide (2 ≤ v.length) && decide (v.length ≤ 4))
  | _ => false
theorem isVec_eq {d : D} (h : isVec d = true) : ∃ v, d = .tup v := by
  cases d <;> first | exact ⟨_, rfl⟩ | cases h
theorem isLine_len {xs : List D} (h : xs.length ≠ 2) : isLine (.tup xs) = false := by
  match xs, h with
  | [], _ => rfl
  | [_], _ => rfl
  | [a, b], h => exact absurd rfl h
  | a :: b :: c :: r, _ => cases b <;> rfl
theorem isLine_isT {d : D} (h : isT d = false) : isLine d = false := by
  cases d <;> first | rfl | cases h
theorem isLine_two {a b : D} (h : (isWd a && isVec b) = false) : isLine (.tup [a, b]) = false := by
  cases b <;> first | rfl | (show ((isWd a && isVec (.tup _)) && _) = false; rw [h] <;> rfl)
theorem line_val {d : D} (h : nice d = true) : f_is_line [d] = pure (.bl (isLine d)) := by
  rw [c_is_line, u_runB]
  simp [u_seqM, envOf, i_tup h]
  by_cases ht : isT d = true
  · obtain ⟨xs, rfl⟩ := isT_eq ht
    have hx := nices_all (show nices xs = true from h)
    simp [ht]
    by_cases c : xs.length = 2
    · obtain ⟨a, b, rfl⟩ := len2 c
      have ha := hx a (List.mem_cons_self ..)
      have hb := hx b (List.mem_cons_of_mem _ (List.mem_cons_self ..))
      have i0 : ixD (.tup [a, b]) (.int 0) = pure a := rfl
      have i1 : ixD (.tup [a, b]) (.int 1) = pure b := rfl
      simp [i0, i1, word_val ha, vector_val hb]
      by_cases hw : isWd a = true
      · by_cases hv : isVec b = true
        · obtain ⟨v, rfl⟩ := isVec_eq hv
          have hv' := hv
          simp only [isVec] at hv'
          simp [hw, hv, isLine]
          by_cases c1 : 2 ≤ v.length
          · have : (2 : Int) ≤ v.length := by omega
            by_cases c2 : v.length ≤ 4
            · have : (v.length : Int) ≤ 4 := by omega
              simp [*]
            · have : ¬ (v.length : Int) ≤ 4 := by omega
              simp [*]
          · have : ¬ (2 : Int) ≤ v.length := by omega
            simp [*]
        · rw [Bool.not_eq_true] at hv
          rw [isLine_two (by rw [hv, Bool.and_false])]
          simp [hw, hv]
      · rw [Bool.not_eq_true] at hw
        rw [isLine_two (by rw [hw, Bool.false_and])]
        simp [hw]
    · have : ¬ (xs.length : Int) = 2 := by omega
      rw [isLine_len c]
      simp [c, this]
  · rw [Bool.not_eq_true] at ht
    simp [ht, isLine_isT ht]
end TP
end

-- text K32
section
set_option maxHeartbeats 4000000
set_option autoImplicit false
namespace TP
open PySem PySem.Spec L2 TL
def wordD : D → List Nat
  | .tup (.str x :: _) => x.cps.toList
  | _ => []
def ascAt (rs : List D) (i : Nat) : Bool := match rs[i]?, rs[i + 1]? with
  | some a, some b => decide (wordD a < wordD b)
  | _, _ => false
def asc (rs : List D) : Bool := (List.range (rs.length - 1)).all (ascAt rs)
def isRows (rs : List D) : Bool := (((decide (1 ≤ rs.length) && decide (rs.length ≤ 6)) && rs.all isLine) && rs.all fun r => decide (vlen r = vlen (rs.headD .non))) && asc rs
def isLn (d : D) : Bool := match d with
  | .tup [.str s, .tup rs] => decide (s = "lines") && isRows rs
  | _ => false
theorem isLine_eq {d : D} (h : isLine d = true) : ∃ x v, d = .tup [.str x, .tup v] := by
  match d, h with
  | .tup [w, .tup v], h =>
    have h : ((isWd w && isVec (.tup v)) && (decide (2 ≤ v.length) && decide (v.length ≤ 4))) = true := h
    rw [Bool.and_eq_true, Bool.and_eq_true] at h
    cases w <;> first | exact ⟨_, _, rfl⟩ | exact absurd h.1.1 Bool.false_ne_true
theorem okS_lines : okS "lines" := by show SeqAt.shaped (.str "lines") = true; decide +kernel
theorem isLn_isT {d : D} (h : isT d = false) : isLn d = false := by
  cases d <;> first | rfl | cases h
theorem isLn_len {xs : List D} (h : xs.length ≠ 2) : isLn (.tup xs) = false := by
  match xs, h with
  | [], _ => rfl
  | [a], _ => cases a <;> rfl
  | [a, b], h => exact absurd rfl h
  | a :: b :: c :: r, _ => cases a <;> cases b <;> rfl
theorem isLn_str {a b : D} (h : isS a = false) : isLn (.tup [a, b]) = false := by
  cases a <;> cases b <;> first | rfl | cases h
theorem isLn_tup {a b : D} (h : isT b = false) : isLn (.tup [a, b]) = false := by
  cases a <;> cases b <;> first | rfl | cases h
theorem lines_val {d : D} (h : nice d = true) : f_is_lines [d] = pure (.bl (isLn d)) := by
  rw [c_is_lines, u_runB]
  simp [u_seqM, envOf, i_tup h]
  by_cases ht : isT d = true
  · obtain ⟨xs, rfl⟩ := isT_eq ht
    have hx := nices_all (show nices xs = true from h)
    simp [ht]
    by_cases c : xs.length = 2
    · obtain ⟨a, b, rfl⟩ := len2 c
      have ha := hx a (List.mem_cons_self ..)
      have hb := hx b (List.mem_cons_of_mem _ (List.mem_cons_self ..))
      have i0 : ixD (.tup [a, b]) (.int 0) = pure a := rfl
      have i1 : ixD (.tup [a, b]) (.int 1) = pure b := rfl
      simp [i0, i1, i_str ha, i_tup hb]
      by_cases hs : isS a = true
      · obtain ⟨x, rfl⟩ := isS_eq hs
        simp [hs, (eq_str (nice_str ha).1 okS_lines).2]
        by_cases hl : x = "lines"
        · by_cases hr : isT b = true
          · obtain ⟨rs, rfl⟩ := isT_eq hr
            have hrs := nices_all (show nices rs = true from hb)
            simp [hl, hr]
            rw [comp_self (f := fun y => .bl (isLine y)) (fun y hy => by simp [wipeE, line_val (hrs y hy)])]
            simp only [mo_pure_bind]
            rw [all_bl isLine]
            by_cases c1 : 1 ≤ rs.length
            · by_cases c2 : rs.length ≤ 6
              · cases hall : rs.all isLine with
                | false =>
                  have d1 : (1 : Int) ≤ rs.length := by omega
                  have d2 : ¬ (6 : Int) < rs.length := by omega
                  have d3 : isLn (.tup [.str "lines", .tup rs]) = false := by simp [isLn, isRows, hall]
                  simp [d1, d2, d3, tru_bl]
                | true =>
                  rw [List.all_eq_true] at hall
                  have d1 : (1 : Int) ≤ rs.length := by omega
                  have d2 : ¬ (6 : Int) < rs.length := by omega
                  obtain ⟨r0, rest, e0⟩ : ∃ r0 rest, rs = r0 :: rest := by
                    cases rs with
                    | nil => exact absurd c1 (by decide)
                    | cons r rs => exact ⟨_, _, rfl⟩
                  have z0 : ixD (.tup rs) (.int 0) = pure r0 := by rw [e0]; exact ixt_nat _ 0
                  obtain ⟨x0, w0, f0⟩ := isLine_eq (hall r0 (by rw [e0]; exact List.mem_cons_self ..))
                  subst f0
                  have e2 : ((rs.length : Int) - 1) = ((rs.length - 1 : Nat) : Int) := by omega
                  simp [d1, d2, tru_bl]
                  rw [comp_self (f := fun y => .bl (!decide (vlen y = w0.length))) (fun y hy => by
                    obtain ⟨x, v, rfl⟩ := isLine_eq (hall y hy)
                    have j1 : ixD (.tup [.str x, .tup v]) (.int 1) = pure (.tup v) := rfl
                    have j2 : ixD (.tup [.str x0, .tup w0]) (.int 1) = pure (.tup w0) := rfl
                    have j3 : (((v.length : Nat) : Int) == (w0.length : Int)) = decide (v.length = w0.length) := by
                      rw [Bool.eq_iff_iff]
                      simp
                      omega
                    simp [wipeE, z0, j1, j2, vlen, j3]
                    try rfl)]
                  simp only [mo_pure_bind]
                  rw [any_bl fun y => !decide (vlen y = w0.length)]
                  rw [e2, rng_i _ (by omega)]
                  simp only [mo_pure_bind, tru_bl]
                  rw [comp_map (f := fun i : Nat => .bl (ascAt rs i)) (fun i hi => by
                    have hi := List.mem_range.mp hi
                    have g1 : rs[i]? = some rs[i] := List.getElem?_eq_getElem (by omega)
                    have g2 : rs[i + 1]? = some rs[i + 1] := List.getElem?_eq_getElem (by omega)
                    obtain ⟨x, v, q1⟩ := isLine_eq (hall rs[i] (List.getElem_mem _))
                    obtain ⟨x', v', q2⟩ := isLine_eq (hall rs[i + 1] (List.getElem_mem _))
                    have t1 : ixD (.tup rs) (.int (i : Int)) = pure (.tup [.str x, .tup v]) := by rw [ixt_nat, g1, q1] <;> rfl
                    have t2 : ixD (.tup rs) (.int ((i : Int) + 1)) = pure (.tup [.str x', .tup v']) := by
                      have := ixt_nat rs (i + 1)
                      rw [g2, q2] at this
                      exact this
                    have t3 : ixD (.tup [.str x, .tup v]) (.int 0) = pure (.str x) := rfl
                    have t4 : ixD (.tup [.str x', .tup v']) (.int 0) = pure (.str x') := rfl
                    have t5 : cmF .Lt (.str x) (.str x') = pure (.bl (decide (x.cps.toList < x'.cps.toList))) := rfl
                    have t6 : ascAt rs i = decide (x.cps.toList < x'.cps.toList) := by
                      unfold ascAt
                      rw [g1, g2, q1, q2] <;> rfl
                    simp [wipeE, t1, t2, t3, t4, t5, t6])]
                  simp only [mo_pure_bind]
                  rw [all_bl (ascAt rs)]
                  have q : isLn (.tup [.str "lines", .tup rs]) = ((rs.all fun r => decide (vlen r = w0.length)) && asc rs) := by
                    have a1 : rs.all isLine = true := List.all_eq_true.mpr hall
                    have a2 : vlen (rs.headD .non) = w0.length := by rw [e0] <;> rfl
                    simp only [isLn, isRows, a1, a2, c1, c2, decide_true, Bool.true_and]
                  rw [q]
                  cases b1 : rs.all fun r => decide (vlen r = w0.length) with
                  | true =>
                    have b2 : (rs.any fun r => !decide (vlen r = w0.length)) = false := by
                      rw [List.all_eq_true] at b1
                      rw [List.any_eq_false]
                      intro y hy
                      rw [b1 y hy]
                      simp
                    rw [b2]
                    rfl
                  | false =>
                    have b2 : (rs.any fun r => !decide (vlen r = w0.length)) = true := by
                      rw [List.all_eq_false] at b1
                      obtain ⟨y, hy, z⟩ := b1
                      rw [List.any_eq_true]
                      refine ⟨y, hy, ?_⟩
                      rw [Bool.not_eq_true] at z
                      rw [z] <;> rfl
                    rw [b2]
                    rfl
              · have d1 : (1 : Int) ≤ rs.length := by omega
                have d2 : (6 : Int) < rs.length := by omega
                have d3 : isLn (.tup [.str "lines", .tup rs]) = false := by simp [isLn, isRows, c2]
                simp [d1, d2, d3]
            · have d1 : ¬ (1 : Int) ≤ rs.length := by omega
              have d3 : isLn (.tup [.str "lines", .tup rs]) = false := by simp [isLn, isRows, c1]
              simp [d1, d3]
          · rw [Bool.not_eq_true] at hr
            rw [isLn_tup hr]
            simp [hl, hr]
        · have : isLn (.tup [.str x, b]) = false := by
            cases b <;> first | rfl | (show (decide _ && _) = false; rw [decide_eq_false hl] <;> rfl)
          rw [this]
          simp [hl]
      · rw [Bool.not_eq_true] at hs
        rw [isLn_str hs]
        simp [hs]
    · have : ¬ (xs.length : Int) = 2 := by omega
      rw [isLn_len c]
      simp [c, this]
  · rw [Bool.not_eq_true] at ht
    simp [ht, isLn_isT ht]
end TP
end

-- text K33
section
set_option maxHeartbeats 4000000
set_option autoImplicit false
namespace TP
open PySem PySem.Spec L2 TL
def shp : D → Bool
  | .tup [w, .tup _] => isWd w
  | _ => false
theorem shp_eq {d : D} (h : shp d = true) : ∃ x v, d = .tup [.str x, .tup v] ∧ isWd (.str x) = true := by
  match d, h with
  | .tup [w, .tup v], h =>
    have h : isWd w = true := h
    cases w <;> first | exact ⟨_, _, rfl, h⟩ | exact absurd h Bool.false_ne_true
theorem shp_isT {d : D} (h : isT d = false) : shp d = false := by
  cases d <;> first | rfl | cases h
theorem shp_len {xs : List D} (h : xs.length ≠ 2) : shp (.tup xs) = false := by
  match xs, h with
  | [], _ => rfl
  | [_], _ => rfl
  | [a, b], h => exact absurd rfl h
  | a :: b :: c :: r, _ => cases b <;> rfl
theorem shp_two (a b : D) : shp (.tup [a, b]) = (isWd a && isT b) := by
  cases b <;> first | (show isWd a = (isWd a && true); rw [Bool.and_true]) | (show false = (isWd a && false); rw [Bool.and_false])
def vecOf (n : Nat) : D → Bool
  | .tup [_, v] => isVecN n v
  | _ => false
theorem rows_iff {rs : List D} (hs : rs.all shp = true) : (rs.all isLine && rs.all fun r => decide (vlen r = vlen (rs.headD .non))) = ((decide (2 ≤ vlen (rs.headD .non)) && decide (vlen (rs.headD .non) ≤ 4)) && rs.all (vecOf (vlen (rs.headD .non)))) ∨ rs = [] := by
  cases rs with
  | nil => exact .inr rfl
  | cons r0 rest =>
    refine .inl ?_
    rw [List.all_eq_true] at hs
    rw [Bool.eq_iff_iff]
    simp only [Bool.and_eq_true, List.all_eq_true, decide_eq_true_eq, List.headD_cons]
    have one : ∀ r, r ∈ r0 :: rest → (isLine r = true ∧ vlen r = vlen r0 ↔ (2 ≤ vlen r ∧ vlen r ≤ 4 ∧ vlen r = vlen r0 ∧ vecOf (vlen r0) r = true)) := fun r hr => by
      obtain ⟨x, v, rfl, hw⟩ := shp_eq (hs r hr)
      show (((isWd (.str x) && ((decide (1 ≤ v.length) && decide (v.length ≤ 200)) && v.all isRat)) && (decide (2 ≤ v.length) && decide (v.length ≤ 4))) = true ∧ v.length = vlen r0) ↔ (2 ≤ v.length ∧ v.length ≤ 4 ∧ v.length = vlen r0 ∧ (decide (v.length = vlen r0) && v.all isRat) = true)
      simp only [Bool.and_eq_true, decide_eq_true_eq, hw, true_and]
      constructor
      · intro ⟨⟨⟨⟨a, b⟩, c⟩, d, e⟩, f⟩
        exact ⟨d, e, f, f, c⟩
      · intro ⟨d, e, f, _, c⟩
        exact ⟨⟨⟨⟨by omega, by omega⟩, c⟩, d, e⟩, f⟩
    constructor
    · intro ⟨h1, h2⟩
      have h0 := (one r0 (List.mem_cons_self ..)).mp ⟨h1 r0 (List.mem_cons_self ..), rfl⟩
      exact ⟨⟨decide_eq_true h0.1, decide_eq_true h0.2.1⟩, fun r hr => ((one r hr).mp ⟨h1 r hr, of_decide_eq_true (h2 r hr)⟩).2.2.2⟩
    · intro ⟨⟨h1, h2⟩, h3⟩
      have : ∀ r, r ∈ r0 :: rest → vlen r = vlen r0 := fun r hr => by
        have := h3 r hr
        obtain ⟨x, v, rfl, hw⟩ := shp_eq (hs r hr)
        have : (decide (v.length = vlen r0) && v.all isRat) = true := this
        rw [Bool.and_eq_true, decide_eq_true_eq] at this
        exact this.1
      exact ⟨fun r hr => ((one r hr).mpr ⟨by rw [this r hr]; exact of_decide_eq_true h1, by rw [this r hr]; exact of_decide_eq_true h2, this r hr, h3 r hr⟩).1, fun r hr => decide_eq_true (this r hr)⟩
theorem isLine_shp {d : D} (h : shp d = false) : isLine d = false := by
  cases e : isLine d with
  | false => rfl
  | true =>
    exfalso
    match d, h, e with
    | .tup [w, .tup v], h, e =>
      have e : ((isWd w && isVec (.tup v)) && (decide (2 ≤ v.length) && decide (v.length ≤ 4))) = true := e
      rw [Bool.and_eq_true, Bool.and_eq_true] at e
      have h : isWd w = false := h
      rw [h] at e
      exact absurd e.1.1 Bool.false_ne_true
theorem llines_val {d : D} (h : nice d = true) : f_law_is_lines [d] = pure (.bl (isLn d)) := by
  rw [c_law_is_lines, u_runB]
  simp [u_seqM, envOf, i_tup h]
  by_cases ht : isT d = true
  · obtain ⟨xs, rfl⟩ := isT_eq ht
    have hx := nices_all (show nices xs = true from h)
    simp [ht]
    by_cases c : xs.length = 2
    · obtain ⟨a, b, rfl⟩ := len2 c
      have ha := hx a (List.mem_cons_self ..)
      have hb := hx b (List.mem_cons_of_mem _ (List.mem_cons_self ..))
      have i0 : ixD (.tup [a, b]) (.int 0) = pure a := rfl
      have i1 : ixD (.tup [a, b]) (.int 1) = pure b := rfl
      simp [i0, i1, i_str ha, i_tup hb]
      by_cases hs : isS a = true
      · obtain ⟨x, rfl⟩ := isS_eq hs
        simp [hs, (eq_str (nice_str ha).1 okS_lines).2]
        by_cases hl : x = "lines"
        · by_cases hr : isT b = true
          · obtain ⟨rs, rfl⟩ := isT_eq hr
            have hrs := nices_all (show nices rs = true from hb)
            simp [hl, hr]
            by_cases c1 : 1 ≤ rs.length
            · by_cases c2 : rs.length ≤ 6
              · have d1 : (1 : Int) ≤ rs.length := by omega
                have d2 : ¬ (6 : Int) < rs.length := by omega
                simp [d1, d2]
                rw [comp_pick (p := fun y => !shp y) (f := fun _ => .int 1) (fun y hy => by
                  have hn := hrs y hy
                  simp [wipeE, i_tup hn]
                  by_cases ht : isT y = true
                  · obtain ⟨xs, rfl⟩ := isT_eq ht
                    have hx := nices_all (show nices xs = true from hn)
                    by_cases c : xs.length = 2
                    · obtain ⟨a, b, rfl⟩ := len2 c
                      have ha := hx a (List.mem_cons_self ..)
                      have hb := hx b (List.mem_cons_of_mem _ (List.mem_cons_self ..))
                      have i0 : ixD (.tup [a, b]) (.int 0) = pure a := rfl
                      have i1 : ixD (.tup [a, b]) (.int 1) = pure b := rfl
                      have e := shp_two a b
                      simp [ht, i0, i1, lword_val ha, i_tup hb, e]
                      cases isWd a <;> cases isT b <;> rfl
                    · have : ¬ (xs.length : Int) = 2 := by omega
                      simp [ht, shp_len c, this]
                  · rw [Bool.not_eq_true] at ht
                    simp [ht, shp_isT ht])]
                have ml : mkLst [] = pure (.lst []) := rfl
                simp only [mo_pure_bind, ml]
                rw [ne_ones, filter_not]
                cases hall : rs.all shp with
                | false =>
                  have d3 : isLn (.tup [.str "lines", .tup rs]) = false := by
                    have : rs.all isLine = false := by
                      rw [List.all_eq_false] at hall ⊢
                      obtain ⟨y, hy, z⟩ := hall
                      rw [Bool.not_eq_true] at z
                      exact ⟨y, hy, by rw [isLine_shp z]; decide⟩
                    simp [isLn, isRows, this]
                  rw [d3] <;> rfl
                | true =>
                  have hall' := hall
                  rw [List.all_eq_true] at hall'
                  obtain ⟨r0, rest, e0⟩ : ∃ r0 rest, rs = r0 :: rest := by
                    cases rs with
                    | nil => exact absurd c1 (by decide)
                    | cons r rs => exact ⟨_, _, rfl⟩
                  have z0 : ixD (.tup rs) (.int 0) = pure r0 := by rw [e0]; exact ixt_nat _ 0
                  obtain ⟨x0, w0, f0, _⟩ := shp_eq (hall' r0 (by rw [e0]; exact List.mem_cons_self ..))
                  subst f0
                  have e2 : ((rs.length : Int) - 1) = ((rs.length - 1 : Nat) : Int) := by omega
                  have j2 : ixD (.tup [.str x0, .tup w0]) (.int 1) = pure (.tup w0) := rfl
                  have a2 : vlen (rs.headD .non) = w0.length := by rw [e0] <;> rfl
                  have q : isLn (.tup [.str "lines", .tup rs]) = (((decide (2 ≤ w0.length) && decide (w0.length ≤ 4)) && rs.all (vecOf w0.length)) && asc rs) := by
                    have := (rows_iff hall).resolve_right (by rw [e0]; exact fun z => nomatch z)
                    rw [a2] at this
                    rw [← this]
                    simp only [isLn, isRows, a2, c1, c2, decide_true, Bool.true_and]
                  rw [q]
                  have nb : toB (.bl (!true)) = pure false := rfl
                  simp only [mo_pure_bind, nb, z0, j2]
                  simp
                  by_cases c3 : 2 ≤ w0.length
                  · by_cases c4 : w0.length ≤ 4
                    · have d3 : (2 : Int) ≤ w0.length := by omega
                      have d4 : ¬ (4 : Int) < w0.length := by omega
                      simp [d3, d4, c3, c4]
                      rw [comp_pick (p := fun y => !vecOf w0.length y) (f := fun _ => .int 1) (fun y hy => by
                        obtain ⟨x, v, rfl, _⟩ := shp_eq (hall' y hy)
                        have j1 : ixD (.tup [.str x, .tup v]) (.int 1) = pure (.tup v) := rfl
                        have nv := nices_all (show nices [.str x, .tup v] = true from hrs _ hy) (.tup v) (List.mem_cons_of_mem _ (List.mem_cons_self ..))
                        simp [wipeE, j1, lvector_val nv, vecOf]
                        cases isVecN w0.length (.tup v) <;> rfl)]
                      simp only [mo_pure_bind, ml]
                      rw [ne_ones, filter_not]
                      cases hv : rs.all (vecOf w0.length) with
                      | false => rfl
                      | true =>
                        rw [e2, rng_i _ (by omega)]
                        simp only [mo_pure_bind, nb]
                        rw [comp_filter (e := fun i : Nat => D.int (i : Int)) (p := fun i => !ascAt rs i) (f := fun i : Nat => .int (i : Int)) (fun i hi => by
                          have hi := List.mem_range.mp hi
                          have g1 : rs[i]? = some rs[i] := List.getElem?_eq_getElem (by omega)
                          have g2 : rs[i + 1]? = some rs[i + 1] := List.getElem?_eq_getElem (by omega)
                          obtain ⟨x, v, q1, _⟩ := shp_eq (hall' rs[i] (List.getElem_mem _))
                          obtain ⟨x', v', q2, _⟩ := shp_eq (hall' rs[i + 1] (List.getElem_mem _))
                          have t1 : ixD (.tup rs) (.int (i : Int)) = pure (.tup [.str x, .tup v]) := by rw [ixt_nat, g1, q1] <;> rfl
                          have t2 : ixD (.tup rs) (.int ((i : Int) + 1)) = pure (.tup [.str x', .tup v']) := by
                            have := ixt_nat rs (i + 1)
                            rw [g2, q2] at this
                            exact this
                          have t3 : ixD (.tup [.str x, .tup v]) (.int 0) = pure (.str x) := rfl
                          have t4 : ixD (.tup [.str x', .tup v']) (.int 0) = pure (.str x') := rfl
                          have t5 : cmF .GtE (.str x) (.str x') = pure (.bl (!decide (x.cps.toList < x'.cps.toList))) := rfl
                          have t6 : ascAt rs i = decide (x.cps.toList < x'.cps.toList) := by
                            unfold ascAt
                            rw [g1, g2, q1, q2] <;> rfl
                          simp [wipeE, t1, t2, t3, t4, t5, t6]
                          try (split <;> rfl))]
                        simp only [mo_pure_bind, ml]
                        have e : cmF .Eq (.lst (((List.range (rs.length - 1)).filter fun i => !ascAt rs i).map fun i : Nat => D.int (i : Int))) (.lst []) = pure (.bl (asc rs)) := by
                          show Mo.of ((eqO _ _).map D.bl) = _
                          rw [eqO_lnil (goods_of fun y hy => by
                            obtain ⟨i, hi, rfl⟩ := List.mem_map.mp hy
                            have hi := List.mem_range.mp (List.mem_filter.mp hi).1
                            exact decide_eq_true (show ((i : Int)).natAbs < 2 ^ 4000 from Nat.lt_of_lt_of_le (show ((i : Int)).natAbs < 2 ^ 3 by omega) (Nat.pow_le_pow_right (by decide) (by decide)))) (deps_of fun y hy => by
                            obtain ⟨i, hi, rfl⟩ := List.mem_map.mp hy
                            exact Nat.zero_le _)]
                          rw [List.isEmpty_map, filter_not] <;> rfl
                        rw [e]
                        rfl
                    · have d3 : (2 : Int) ≤ w0.length := by omega
                      have d4 : (4 : Int) < w0.length := by omega
                      simp [d3, d4, c3, c4]
                  · have d3 : ¬ (2 : Int) ≤ w0.length := by omega
                    simp [d3, c3]
              · have d1 : (1 : Int) ≤ rs.length := by omega
                have d2 : (6 : Int) < rs.length := by omega
                have d3 : isLn (.tup [.str "lines", .tup rs]) = false := by simp [isLn, isRows, c2]
                simp [d1, d2, d3]
            · have d1 : ¬ (1 : Int) ≤ rs.length := by omega
              have d3 : isLn (.tup [.str "lines", .tup rs]) = false := by simp [isLn, isRows, c1]
              simp [d1, d3]
          · rw [Bool.not_eq_true] at hr
            rw [isLn_tup hr]
            simp [hl, hr]
        · have : isLn (.tup [.str x, b]) = false := by
            cases b <;> first | rfl | (show (decide _ && _) = false; rw [decide_eq_false hl] <;> rfl)
          rw [this]
          simp [hl]
      · rw [Bool.not_eq_true] at hs
        rw [isLn_str hs]
        simp [hs]
    · have : ¬ (xs.length : Int) = 2 := by omega
      rw [isLn_len c]
      simp [c, this]
  · rw [Bool.not_eq_true] at ht
    simp [ht, isLn_isT ht]
end TP
end

-- text K34
section
set_option maxHeartbeats 4000000
set_option autoImplicit false
namespace TP
open PySem PySem.Spec L2 TL
theorem raise_bind {α β : Type} (c : Str) (k : α → Mo β) : ((Mo.raise c : Mo α) >>= k) = Mo.raise c := rfl
section
variable {x y : D}
theorem need_ok (h : nice x = true) (hl : isLn x = true) : f_need_lines [x] = pure .non := by
  rw [c_need_lines, u_runB]
  simp [u_seqM, envOf, lines_val h, hl]
theorem need_bad (h : nice x = true) (hl : isLn x = false) : f_need_lines [x] = Mo.raise "BadLines" := by
  rw [c_need_lines, u_runB]
  simp [u_seqM, envOf, lines_val h, hl, raise_bind]
theorem chosen_bad (h : nice x = true) (hl : isLn x = false) : f_chosen [x, y] = Mo.raise "BadLines" := by
  rw [c_chosen, u_runB]
  simp [u_seqM, envOf, need_bad h hl, raise_bind]
theorem region_bad (h : nice x = true) (hl : isLn x = false) : f_region [x, y] = Mo.raise "BadLines" := by
  rw [c_region, u_runB]
  simp [u_seqM, envOf, need_bad h hl, raise_bind]
theorem region_word (h : nice x = true) (hl : isLn x = true) (hy : nice y = true) (hw : isWd y = false) : f_region [x, y] = Mo.raise "BadWord" := by
  rw [c_region, u_runB]
  have : f_need_line_word [x, y] = Mo.raise "BadWord" := by
    rw [c_need_line_word, u_runB]
    simp [u_seqM, envOf, word_val hy, hw, raise_bind]
  simp [u_seqM, envOf, need_ok h hl, this, raise_bind]
theorem places_val {r : Row} {rs : List Row} : f_places_of_lines [dLn (r :: rs)] = pure (.int ((r.2.length : Int) - 1)) := by
  rw [c_places_of_lines, u_runB]
  have i1 : ixD (dLn (r :: rs)) (.int 1) = pure (dRows (r :: rs)) := rfl
  have i2 : ixD (dRows (r :: rs)) (.int 0) = pure (dRow r) := ixt_nat _ 0
  have i3 : ixD (dRow r) (.int 1) = pure (dV r.2) := rfl
  simp [u_seqM, envOf, i1, i2, i3]
theorem chosen_point {r : Row} {rs : List Row} (h : nice (dLn (r :: rs)) = true) (hl : isLn (dLn (r :: rs)) = true) (hy : nice y = true) (hv : isVecN (r.2.length - 1) y = false) : f_chosen [dLn (r :: rs), y] = Mo.raise "BadPoint" := by
  rw [c_chosen, u_runB]
  simp [u_seqM, envOf, need_ok h hl, vector_val hy]
  cases e : isVec y with
  | false => simp [raise_bind]
  | true =>
    obtain ⟨v, rfl⟩ := isVec_eq e
    have e' : ((decide (1 ≤ v.length) && decide (v.length ≤ 200)) && v.all isRat) = true := e
    rw [Bool.and_eq_true, Bool.and_eq_true, decide_eq_true_eq] at e'
    have hv : (decide (v.length = r.2.length - 1) && v.all isRat) = false := hv
    rw [e'.2, Bool.and_true, decide_eq_false_iff_not] at hv
    have ne : ((v.length : Int) == ((r.2.length : Int) - 1)) = false := beq_eq_false_iff_ne.mpr (by omega)
    simp [places_val, ne, raise_bind]
    try (intro z; exact absurd z (by omega))
theorem chosen_val {m n : Nat} {r : Row} {rs : List Row} {p : List Rat} (h : nice (dLn (r :: rs)) = true) (hl : isLn (dLn (r :: rs)) = true) (hp : nice (dV p) = true) (hv : isVec (dV p) = true) (hn : p.length = r.2.length - 1) (h1 : 1 ≤ r.2.length) (P : Pt m n (r :: rs) p) :
    f_chosen [dLn (r :: rs), dV p] = pure (.tup ((chosenW (r :: rs) p).map fun r => .str r.1)) := by
  rw [c_chosen, u_runB]
  have hg := gw_val P
  have e : ((p.length : Int) == ((r.2.length : Int) - 1)) = true := beq_iff_eq.mpr (by omega)
  have ll : lenD [dV p] = pure (.int (p.length : Int)) := by
    show (pure (.int ((p.map dQ).length : Int)) : Mo D) = _
    rw [List.length_map]
  simp [u_seqM, envOf, need_ok h hl, vector_val hp, hv, places_val, hg, e, ll]
  try (intro z; exact absurd z (by omega))
end
end TP
end

-- text K35
section
set_option maxHeartbeats 4000000
set_option autoImplicit false
namespace TP
open PySem PySem.Spec L2 TL
theorem in_tup (w : Str) (ws : List Str) : cmF .In (.str w) (.tup (ws.map D.str)) = pure (.bl (decide (w ∈ ws))) := by
  have hf : (ws.map D.str).all flatD = true := by rw [List.all_map]; exact List.all_eq_true.mpr fun _ _ => rfl
  have e : inO (.str w) (.tup (ws.map D.str)) = some (decide (w ∈ ws)) := by
    show (if flatD (.str w) = true ∧ (ws.map D.str).all flatD = true then some ((ws.map D.str).any fun y => eqF y (.str w)) else none) = _
    rw [if_pos ⟨rfl, hf⟩, List.any_map]
    congr 1
    rw [Bool.eq_iff_iff, decide_eq_true_eq, List.any_eq_true]
    constructor
    · intro ⟨z, hz, q⟩
      have q : (z == w) = true := q
      rw [← eq_of_beq q]
      exact hz
    · intro h
      exact ⟨w, h, (beq_self_eq_true w : (w == w) = true)⟩
  show Mo.of ((inO _ _).map D.bl) = _
  rw [e] <;> rfl
theorem strs_py : ∀ ws : List Str, toPyL (ws.map D.str) = some (ws.map PyData.str)
  | [] => rfl
  | w :: ws => by
    show (match toPy (.str w), toPyL (ws.map D.str) with
      | some y, some ys => some (y :: ys)
      | _, _ => none) = _
    rw [strs_py ws] <;> rfl
theorem strs_shaped {ws : List Str} (h : ∀ w, w ∈ ws → okS w) : SeqAt.shaped (.list (ws.map PyData.str)) = true := by
  have h1 : PyData.canLayAll0 (ws.map PyData.str) = true ∧ PyData.depthAll (ws.map PyData.str) = 0 := by
    induction ws with
    | nil => exact ⟨rfl, rfl⟩
    | cons w ws ih =>
      obtain ⟨a, b⟩ := ih fun y hy => h y (List.mem_cons_of_mem _ hy)
      refine ⟨?_, ?_⟩
      · show ((PyData.str w).canLay0 && PyData.canLayAll0 (ws.map PyData.str)) = true
        rw [SeqAt.canLay_of_shaped (h w (List.mem_cons_self ..)), a] <;> rfl
      · show max 0 (PyData.depthAll (ws.map PyData.str)) = 0
        rw [b] <;> rfl
  show (PyData.canLayAll0 (ws.map PyData.str) && decide (PyData.depthAll (ws.map PyData.str) + 1 ≤ 64)) = true
  rw [h1.1, h1.2] <;> rfl
theorem nin_lst {w : Str} {ws : List Str} (hw : okS w) (h : ∀ w, w ∈ ws → okS w) : cmF .NotIn (.str w) (.lst (ws.map D.str)) = pure (.bl (!decide (w ∈ ws))) := by
  have e : inO (.str w) (.lst (ws.map D.str)) = some (decide (w ∈ ws)) := by
    show (match toPy (.str w), toPyL (ws.map D.str) with
      | some d, some ds => if SeqAt.shaped d = true ∧ SeqAt.shaped (.list ds) = true then some (ds.any fun z => PyData.eqv z d) else none
      | _, _ => none) = _
    rw [strs_py]
    show (if SeqAt.shaped (.str w) = true ∧ SeqAt.shaped (.list (ws.map PyData.str)) = true then some ((ws.map PyData.str).any fun z => PyData.eqv z (.str w)) else none) = _
    rw [if_pos ⟨hw, strs_shaped h⟩, List.any_map]
    congr 1
    rw [Bool.eq_iff_iff, decide_eq_true_eq, List.any_eq_true]
    constructor
    · intro ⟨z, hz, q⟩
      have q : (z == w) = true := q
      rw [← eq_of_beq q]
      exact hz
    · intro h
      exact ⟨w, h, (beq_self_eq_true w : (w == w) = true)⟩
  show Mo.of ((inO _ _).map fun k => D.bl (!k)) = _
  rw [e] <;> rfl
end TP
end

-- text K36
section
set_option maxHeartbeats 4000000
set_option autoImplicit false
namespace TP
open PySem PySem.Spec L2 TL
theorem need_word {m : Nat} {rows : List Row} {w : Str} (R : Rw m rows) (hy : nice (.str w) = true) (hw : isWd (.str w) = true) (hm : w ∈ rows.map (·.1)) : f_need_line_word [dLn rows, .str w] = pure .non := by
  have ow := (nice_str hy).1
  rw [c_need_line_word, u_runB]
  simp [-List.map_map, u_seqM, envOf, word_val hy, hw]
  rw [comp_map (e := dRow) (f := fun r : Row => .str r.1) (fun r hr => by
    have i2 : ixD (dRow r) (.int 0) = pure (.str r.1) := rfl
    simp [wipeE, i2])]
  have e : (rows.map fun r : Row => D.str r.1) = (rows.map (·.1)).map D.str := by rw [List.map_map] <;> rfl
  simp only [mo_pure_bind]
  rw [e, nin_lst ow (fun z hz => by
    obtain ⟨a, b, rfl⟩ := List.mem_map.mp hz
    exact R.w a b), decide_eq_true hm]
  rfl
theorem region_val {m : Nat} {rows : List Row} {w : Str} {r0 : Row} {rest : List Row} {k : Int} (R : Rw m rows) (h : nice (dLn rows) = true) (hl : isLn (dLn rows) = true) (hy : nice (.str w) = true) (hw : isWd (.str w) = true) (hp : f_places_of_lines [dLn rows] = pure (.int k))
    (h0 : (rows.filter fun r => decide (r.1 = w)) = r0 :: rest) :
    f_region [dLn rows, .str w] = pure (.tup [.str "polyhedron", .int k, .tup ((limitsQ rows w r0.2).map dLim)]) := by
  have ow := (nice_str hy).1
  have hm : w ∈ rows.map (·.1) := by
    have : r0 ∈ rows.filter fun r => decide (r.1 = w) := by rw [h0]; exact List.mem_cons_self ..
    obtain ⟨a, b⟩ := List.mem_filter.mp this
    exact List.mem_map.mpr ⟨r0, a, of_decide_eq_true b⟩
  have nw := need_word R hy hw hm
  have hv := limits_val R ow h0
  have nl := need_ok h hl
  rw [c_region, u_runB]
  simp [-List.map_map, u_seqM, envOf, nl, nw, hp, hv]
end TP
end

-- text K37
section
set_option maxHeartbeats 4000000
set_option autoImplicit false
namespace TP
open PySem PySem.Spec L2 TL
/-! ### a point keeps the limits just where the word is chosen -/
def keepsQ (ls : List (List Rat × Rat)) (p : List Rat) : Bool := ls.all fun l => !decide (dotQ l.1 p < l.2)
theorem keeps_val {m n : Nat} {ls : List (List Rat × Rat)} {p : List Rat} (hl : ∀ l, l ∈ ls → smV m l.1 ∧ sm m l.2) (hp : smV n p) (hb : ∀ l, l ∈ ls → 1 + (prodQ l.1 p).length * (m + n + 1) ≤ 4400) (hm : m + n ≤ 4400) :
    f_law_ph_keeps [.tup (ls.map dLim), dV p] = pure (.bl (keepsQ ls p)) := by
  rw [c_law_ph_keeps, u_runB]
  simp [-List.map_map, u_seqM, envOf]
  rw [comp_filter (e := dLim) (p := fun l => decide (dotQ l.1 p < l.2)) (f := fun _ => .int 1) (fun l hl' => by
    obtain ⟨h1, h2⟩ := hl l hl'
    have k1 := ldot_val h1 hp (hb l hl') hm
    have k2 := lless_val (dot_sm h1 hp) h2 (hb l hl') (by omega)
    simp [-List.map_map, wipeE, k1, k2]
    split <;> rfl)]
  have ml : mkLst [] = pure (.lst []) := rfl
  simp only [mo_pure_bind, ml]
  rw [eq_ones]
  congr 2
  unfold keepsQ
  rw [← filter_not]
  congr 1
  apply List.filter_congr
  intro l hl
  rw [Bool.not_not]
end TP
end

-- text K38
section
set_option maxHeartbeats 4000000
set_option autoImplicit false
namespace TP
open PySem PySem.Spec L2 TL
theorem sum_shift (qs : List Rat) : ∀ a : Rat, qs.foldl (· + ·) a = a + qs.foldl (· + ·) 0 := by
  induction qs with
  | nil => intro a; exact (Rat.add_zero a).symm
  | cons q qs ih =>
    intro a
    rw [List.foldl_cons, List.foldl_cons, ih (a + q), ih (0 + q), Rat.zero_add, Rat.add_assoc]
theorem sumQ_cons (q : Rat) (qs : List Rat) : sumQ (q :: qs) = q + sumQ qs := by
  unfold sumQ
  rw [List.foldl_cons, sum_shift, Rat.zero_add]
theorem dot_cons (a b : Rat) (x y : List Rat) : dotQ (a :: x) (b :: y) = a * b + dotQ x y := sumQ_cons _ _
theorem dot_sub : ∀ {x y p : List Rat}, x.length = y.length → dotQ (subQ x y) p = dotQ x p - dotQ y p
  | [], [], p, _ => by
    show (0 : Rat) = 0 - 0
    decide +kernel
  | a :: x, b :: y, [], _ => by
    show (0 : Rat) = 0 - 0
    decide +kernel
  | a :: x, b :: y, c :: p, h => by
    have ih := dot_sub (x := x) (y := y) (p := p) (Nat.succ.inj h)
    have e : subQ (a :: x) (b :: y) = (a - b) :: subQ x y := rfl
    rw [e, dot_cons, dot_cons, dot_cons, ih]
    grind
theorem keep_iff {own f p : List Rat} (h : own.length = f.length) : (dotQ (limitQ own f).1 p < (limitQ own f).2) ↔ worthQ own p < worthQ f p := by
  show dotQ (subQ own.dropLast f.dropLast) p < lastQ f - lastQ own ↔ dotQ own.dropLast p + lastQ own < dotQ f.dropLast p + lastQ f
  rw [dot_sub (by rw [List.length_dropLast, List.length_dropLast, h])]
  constructor <;> intro z <;> grind
/-- the words of the rows differ -/
def Uniq (rows : List Row) : Prop := ∀ r r', r ∈ rows → r' ∈ rows → r.1 = r'.1 → r = r'
theorem keep_due {rows : List Row} {p : List Rat} {r0 : Row} (hu : Uniq rows) (h0 : r0 ∈ rows) (hl : ∀ r, r ∈ rows → r.2.length = r0.2.length) :
    keepsQ (limitsQ rows r0.1 r0.2) p = decide (r0.1 ∈ (chosenW rows p).map (·.1)) := by
  rw [Bool.eq_iff_iff, decide_eq_true_eq]
  unfold keepsQ limitsQ
  rw [List.all_eq_true]
  have key : (∀ l, l ∈ (rows.filter fun r => !decide (r.1 = r0.1)).map (fun r => limitQ r0.2 r.2) → (!decide (dotQ l.1 p < l.2)) = true) ↔ ∀ r', r' ∈ rows → worthQ r'.2 p ≤ worthQ r0.2 p := by
    constructor
    · intro h r' hr'
      by_cases c : r'.1 = r0.1
      · rw [hu r' r0 hr' h0 c]
        exact Rat.le_refl
      · have := h (limitQ r0.2 r'.2) (List.mem_map.mpr ⟨r', List.mem_filter.mpr ⟨hr', by simp [c]⟩, rfl⟩)
        rw [Bool.not_eq_true', decide_eq_false_iff_not, keep_iff (hl r' hr').symm] at this
        exact Rat.not_lt.mp this
    · intro h l hl'
      obtain ⟨r', hr', rfl⟩ := List.mem_map.mp hl'
      have hr' := (List.mem_filter.mp hr').1
      rw [Bool.not_eq_true', decide_eq_false_iff_not, keep_iff (hl r' hr').symm]
      exact Rat.not_lt.mpr (h r' hr')
  refine key.trans ?_
  unfold chosenW
  constructor
  · intro h
    exact List.mem_map.mpr ⟨r0, List.mem_filter.mpr ⟨h0, decide_eq_true h⟩, rfl⟩
  · intro h
    obtain ⟨r, hr, e⟩ := List.mem_map.mp h
    obtain ⟨h1, h2⟩ := List.mem_filter.mp hr
    rw [hu r r0 h1 h0 e] at h2
    exact of_decide_eq_true h2
end TP
end

-- text K39
section
set_option maxHeartbeats 4000000
set_option autoImplicit false
namespace TP
open PySem PySem.Spec L2 TL
/-! ### alike at every depth -/
mutual
/-- texts, ints, tuples of such -/
def plainD : D → Bool
  | .int i => decide (i.natAbs < 2 ^ 4000)
  | .str x => SeqAt.shaped (.str x) && decide (x.length ≤ 1000)
  | .tup xs => plainDs xs
  | _ => false
def plainDs : List D → Bool
  | [] => true
  | x :: xs => plainD x && plainDs xs
end
mutual
def sz : D → Nat
  | .tup xs => szs xs + 1
  | _ => 1
def szs : List D → Nat
  | [] => 0
  | x :: xs => sz x + szs xs
end
theorem szs_app (xs ys : List D) : szs (xs ++ ys) = szs xs + szs ys := by
  induction xs with
  | nil => exact (Nat.zero_add _).symm
  | cons x xs ih =>
    show sz x + szs (xs ++ ys) = sz x + szs xs + szs ys
    rw [ih, Nat.add_assoc]
theorem plainDs_all : ∀ {xs : List D}, plainDs xs = true → ∀ x, x ∈ xs → plainD x = true
  | x :: xs, h, y, hy => by
    have h : (plainD x && plainDs xs) = true := h
    rw [Bool.and_eq_true] at h
    rcases List.mem_cons.mp hy with rfl | hy
    · exact h.1
    · exact plainDs_all h.2 y hy
theorem plainDs_of {xs : List D} (h : ∀ x, x ∈ xs → plainD x = true) : plainDs xs = true := by
  induction xs with
  | nil => rfl
  | cons x xs ih =>
    show (plainD x && plainDs xs) = true
    rw [h x (List.mem_cons_self ..), ih (fun y hy => h y (List.mem_cons_of_mem _ hy))] <;> rfl
mutual
theorem plain_good : ∀ d, plainD d = true → good d = true
  | .int _, h => h
  | .str _, h => h
  | .tup xs, h => plains_good xs h
theorem plains_good : ∀ xs, plainDs xs = true → goods xs = true
  | [], _ => rfl
  | x :: xs, h => by
    have h : (plainD x && plainDs xs) = true := h
    rw [Bool.and_eq_true] at h
    show (good x && goods xs) = true
    rw [plain_good x h.1, plains_good xs h.2] <;> rfl
end
abbrev twin (x : D) : D := .tup [x, x]
theorem pairs_self (xs : List D) : pairs xs xs = xs.map twin := by
  induction xs with
  | nil => rfl
  | cons x xs ih =>
    show D.tup [x, x] :: pairs xs xs = _
    rw [ih] <;> rfl
theorem szs_len (xs : List D) : xs.length ≤ szs xs := by
  induction xs with
  | nil => exact Nat.le_refl _
  | cons x xs ih =>
    have : 1 ≤ sz x := by cases x <;> first | exact Nat.le_refl _ | exact Nat.succ_le_succ (Nat.zero_le _)
    show xs.length + 1 ≤ sz x + szs xs
    omega
end TP
end

-- text K40
section
set_option maxHeartbeats 4000000
set_option autoImplicit false
namespace TP
open PySem PySem.Spec L2 TL
noncomputable def sameC : Ev → Mo Bool := (bT (tstB (cmE .NotEq (eV 2) (mlsE eNil))))
noncomputable def sameB : Ev → Mo (Fl × Ev) := (seqM (poE 2 (asgT 2 (asgCons (asgN 3) (asgCons (asgN 4) asgNil)))) (seqM (iteM (tOr (tstB (cmE .Is (eV 4) (eC .non))) (truT (isiE "bool" (eV 4)))) (seqM (iteM (iteM (tstB (cmE .Is (eV 4) (eC .non))) (tstB (cmE .IsNot (eV 3) (eC .non))) (notT (truT (callE (runN 2 f_law_is_truth) (eCons (eV 3) (eCons (eV 4) eNil)))))) (seqM (sRt (eC (.bl false))) sNx) sNx) sNx) (seqM (iteM (truT (isi2E "int" "str" (eV 4))) (seqM (iteM (tOr (truT (isiE "bool" (eV 3))) (tOr (tstB (cmE .NotEq (isiE "int" (eV 3)) (isiE "int" (eV 4)))) (tstB (cmE .NotEq (eV 3) (eV 4))))) (seqM (sRt (eC (.bl false))) sNx) sNx) sNx) (seqM (iteM (truT (isiE "dict" (eV 4))) (seqM (iteM (tOr (notT (truT (isiE "dict" (eV 3)))) (tstB (cmE .NotEq (callE listD (eCons (eV 3) eNil)) (callE listD (eCons (eV 4) eNil))))) (seqM (sRt (eC (.bl false))) sNx) sNx) (seqM (exE 2 (callE listD (eCons (eF) eNil))) (seqM (exE 2 (lstE (lcC (asgN 5) tYes (tupE (eCons (ixE (eV 3) (eV 5)) (eCons (ixE (eV 4) (eV 5)) eNil))) [5] (seqI (eV 4))))) sNx))) (seqM (sSet 6 (mlsE (eCons (eAnd (isiE "tuple" (eV 3)) (isiE "tuple" (eV 4))) (eCons (eAnd (isiE "list" (eV 3)) (isiE "list" (eV 4))) eNil)))) (seqM (iteM (tOr (tstB (cmE .NotIn (eC (.bl true)) (eV 6))) (tstB (cmE .NotEq (callE lenD (eCons (eV 3) eNil)) (callE lenD (eCons (eV 4) eNil))))) (seqM (sRt (eC (.bl false))) sNx) sNx) (seqM (exE 2 (lstE (lcC (asgT 2 (asgCons (asgN 7) (asgCons (asgN 8) asgNil))) tYes (tupE (eCons (eV 7) (eCons (eV 8) eNil))) [7, 8] (zipI (eCons (eV 3) (eCons (eV 4) eNil)))))) sNx)))) sNx)) sNx)) sNx))
theorem same_stop {a b y3 y4 y5 y6 y7 y8 : Sl} : sameC [a, b, .cel [], y3, y4, y5, y6, y7, y8] = pure false := by
  unfold sameC
  cases a <;> cases b <;> simp
  all_goals rfl
theorem good_twins {xs : List D} (h : plainDs xs = true) : goods (xs.map twin) = true := goods_of fun y hy => by
  obtain ⟨x, hx, rfl⟩ := List.mem_map.mp hy
  have := plain_good x (plainDs_all h x hx)
  show (good x && (good x && true)) = true
  rw [this] <;> rfl
theorem dep_twins {xs : List D} {k : Nat} (h : ∀ x, x ∈ xs → dep x ≤ k) : deps (xs.map twin) ≤ k + 1 := deps_of fun y hy => by
  obtain ⟨x, hx, rfl⟩ := List.mem_map.mp hy
  have := h x hx
  show max (dep x) (max (dep x) 0) + 1 ≤ k + 1
  omega
theorem same_go {a b : D} {y3 y4 y5 y6 y7 y8 : Sl} {xs : List D} (hx : xs ≠ []) (h : plainDs xs = true) (hd : ∀ x, x ∈ xs → dep x ≤ 50) : sameC [.dat a, .dat b, .cel (xs.map twin), y3, y4, y5, y6, y7, y8] = pure true := by
  unfold sameC
  have e : cmF .NotEq (.lst (xs.map twin)) (.lst []) = pure (.bl true) := by
    show Mo.of ((eqO _ _).map fun k => D.bl (!k)) = _
    rw [eqO_lnil (good_twins h) (Nat.le_trans (dep_twins hd) (by decide)), List.isEmpty_map]
    cases xs with
    | nil => exact absurd rfl hx
    | cons x xs => rfl
  have ml : mkLst [] = pure (.lst []) := rfl
  simp [-List.map_eq_nil_iff]
  rw [ml]
  simp only [mo_pure_bind]
  rw [e] <;> rfl
end TP
end

-- text K41
section
set_option maxHeartbeats 4000000
set_option autoImplicit false
namespace TP
open PySem PySem.Spec L2 TL
theorem isi2_int {i : Int} : isi2O "int" "str" (.int i) = some true := rfl
theorem twins_last (xs : List D) (x : D) : ((xs ++ [x]).map twin)[((xs ++ [x]).map twin).length - 1]? = some (twin x) ∧ ((xs ++ [x]).map twin).dropLast = xs.map twin := by
  rw [List.map_append]
  constructor
  · simp
  · simp
theorem same_int {a b : D} {y3 y4 y5 y6 y7 y8 : Sl} {xs : List D} {i : Int} : sameB [.dat a, .dat b, .cel ((xs ++ [D.int i]).map twin), y3, y4, y5, y6, y7, y8] = pure (.nx, [.dat a, .dat b, .cel (xs.map twin), .dat (.int i), .dat (.int i), y5, y6, y7, y8]) := by
  unfold sameB
  obtain ⟨t1, t2⟩ := twins_last xs (D.int i)
  have n1 : nice (.int 0) = true := by decide +kernel
  have e1 : cmF .Is (.int i) .non = pure (.bl false) := rfl
  have e2 : isiO "bool" (.int i) = some false := rfl
  have e3 : isiO "int" (.int i) = some true := rfl
  have e4 : isi2O "int" "str" (.int i) = some true := rfl
  have e5 : cmF .NotEq (.bl true) (.bl true) = pure (.bl false) := rfl
  simp [u_seqM, -List.map_append, -List.length_map, -List.getElem?_map, -List.map_dropLast, t1, t2, e1, e2, e3, e4, e5]
theorem same_str {a b : D} {y3 y4 y5 y6 y7 y8 : Sl} {xs : List D} {x : Str} (hx : okS x) : sameB [.dat a, .dat b, .cel ((xs ++ [D.str x]).map twin), y3, y4, y5, y6, y7, y8] = pure (.nx, [.dat a, .dat b, .cel (xs.map twin), .dat (.str x), .dat (.str x), y5, y6, y7, y8]) := by
  unfold sameB
  obtain ⟨t1, t2⟩ := twins_last xs (D.str x)
  have e1 : cmF .Is (.str x) .non = pure (.bl false) := rfl
  have e2 : isiO "bool" (.str x) = some false := by simp only [isiO, tyN, Option.bind_some]; decide +kernel
  have e3 : isiO "int" (.str x) = some false := by simp only [isiO, tyN, Option.bind_some]; decide +kernel
  have e4 : isi2O "int" "str" (.str x) = some true := by
    unfold isi2O
    rw [e3]
    show isiO "str" (.str x) = some true
    simp only [isiO, tyN, Option.bind_some]; decide +kernel
  have e5 : cmF .NotEq (.bl false) (.bl false) = pure (.bl false) := rfl
  have e6 : cmF .NotEq (.str x) (.str x) = pure (.bl false) := by
    rw [(eq_str hx hx).2]
    simp
  simp [u_seqM, -List.map_append, -List.length_map, -List.getElem?_map, -List.map_dropLast, t1, t2, e1, e2, e3, e4, e5, e6]
end TP
end

-- text K42
section
set_option maxHeartbeats 4000000
set_option autoImplicit false
namespace TP
open PySem PySem.Spec L2 TL
theorem same_tup {a b : D} {y3 y4 y5 y6 y7 y8 : Sl} {xs ys : List D} (h5 : okE y5) (h7 : okE y7) (h8 : okE y8) (hl : xs.length + ys.length ≤ 1000) : sameB [.dat a, .dat b, .cel ((xs ++ [D.tup ys]).map twin), y3, y4, y5, y6, y7, y8] = pure (.nx, [.dat a, .dat b, .cel ((xs ++ ys).map twin), .dat (.tup ys), .dat (.tup ys), y5, .dat (.lst [.bl true, .bl false]), y7, y8]) := by
  unfold sameB
  obtain ⟨t1, t2⟩ := twins_last xs (D.tup ys)
  have e1 : cmF .Is (.tup ys) .non = pure (.bl false) := rfl
  have e2 : isiO "bool" (.tup ys) = some false := by simp only [isiO, tyN, Option.bind_some]; decide +kernel
  have e3 : isiO "int" (.tup ys) = some false := by simp only [isiO, tyN, Option.bind_some]; decide +kernel
  have e4 : isiO "str" (.tup ys) = some false := by simp only [isiO, tyN, Option.bind_some]; decide +kernel
  have e5 : isi2O "int" "str" (.tup ys) = some false := by
    unfold isi2O
    rw [e3]
    exact e4
  have e6 : isiO "dict" (.tup ys) = some false := by simp only [isiO, tyN, Option.bind_some]; decide +kernel
  have e7 : isiO "tuple" (.tup ys) = some true := by simp only [isiO, tyN, Option.bind_some]; decide +kernel
  have e8 : isiO "list" (.tup ys) = some false := by simp only [isiO, tyN, Option.bind_some]; decide +kernel
  have e9 : mkLst [.bl true, .bl false] = pure (.lst [.bl true, .bl false]) := rfl
  have e10 : cmF .NotIn (.bl true) (.lst [.bl true, .bl false]) = pure (.bl false) := rfl
  have e11 : (xs.map twin).length + (ys.map twin).length ≤ lim := by
    rw [List.length_map, List.length_map]
    exact Nat.le_trans hl (by decide)
  simp [u_seqM, -List.map_append, -List.map_map, -List.length_map, -List.getElem?_map, -List.map_dropLast, t1, t2, e1, e2, e3, e4, e5, e6, e7, e8, e9, e10, pairs_self]
  rw [comp_map (e := twin) (f := twin) (fun x hx => by
    rcases h7 with rfl | ⟨d7, rfl⟩ <;> rcases h8 with rfl | ⟨d8, rfl⟩ <;> simp [wipeE])]
  simp [-List.map_append, -List.map_map, -List.length_map, e11]
  rw [List.map_append]
  have e12 : (Mo.of (lstD (.lst (ys.map twin))) : Mo (List D)) = pure (ys.map twin) := rfl
  rw [e12]
  simp only [mo_pure_bind]
  rw [if_pos e11]
end TP
end

-- text TpU
section
set_option maxHeartbeats 4000000
set_option autoImplicit false
namespace TP
open PySem PySem.Spec L2 TL
theorem mkLst_ok {ds : List D} (h : ds.length ≤ 1000) : mkLst ds = pure (.lst ds) := if_pos (Nat.le_trans h (by decide))
theorem mkTup_ok {ds : List D} (h : ds.length ≤ 1000) : mkTup ds = pure (.tup ds) := if_pos (Nat.le_trans h (by decide))
section
variable {a : Addr}
theorem ixl_mem {xs : List D} {i : Int} (h0 : 0 ≤ i) (h1 : i < xs.length) : ∃ d, ixD (.lst xs) (.int i) = pure d ∧ d ∈ xs := by
  have e : i.toNat < xs.length := by omega
  refine ⟨xs[i.toNat], ?_, List.getElem_mem e⟩
  have := ixl_nat xs i.toNat
  rw [Int.toNat_of_nonneg h0] at this
  rw [this, List.getElem?_eq_getElem e] <;> rfl
theorem ixt_mem {xs : List D} {i : Int} (h0 : 0 ≤ i) (h1 : i < xs.length) : ∃ d, ixD (.tup xs) (.int i) = pure d ∧ d ∈ xs := by
  have e : i.toNat < xs.length := by omega
  refine ⟨xs[i.toNat], ?_, List.getElem_mem e⟩
  have := ixt_nat xs i.toNat
  rw [Int.toNat_of_nonneg h0] at this
  rw [this, List.getElem?_eq_getElem e] <;> rfl
theorem Tr.pick {xs : List D} (h : xs ≠ []) (hl : xs.length < 2 ^ 50) : Tr a 1 (f_law_pick [.ptr a, .lst xs]) fun d => d ∈ xs := by
  have hp : 0 < xs.length := List.length_pos_iff.mpr h
  have hl' : (xs.length : Int) < 2 ^ 50 := by exact_mod_cast hl
  rw [c_law_pick, u_runB]
  simp [u_seqM, envOf]
  refine Tr.bind (n1 := 1) (n2 := 0) (Tr.draw (by omega) (by omega)) fun d ⟨i, e, h0, h1⟩ => ?_
  subst e
  obtain ⟨d, e, m⟩ := ixl_mem h0 h1
  rw [e]
  exact Tr.pure m
theorem Tr.pickt {xs : List D} (h : xs ≠ []) (hl : xs.length < 2 ^ 50) : Tr a 1 (f_law_pick [.ptr a, .tup xs]) fun d => d ∈ xs := by
  have hp : 0 < xs.length := List.length_pos_iff.mpr h
  have hl' : (xs.length : Int) < 2 ^ 50 := by exact_mod_cast hl
  rw [c_law_pick, u_runB]
  simp [u_seqM, envOf]
  refine Tr.bind (n1 := 1) (n2 := 0) (Tr.draw (by omega) (by omega)) fun d ⟨i, e, h0, h1⟩ => ?_
  subst e
  obtain ⟨d, e, m⟩ := ixt_mem h0 h1
  rw [e]
  exact Tr.pure m
theorem Tr.number {s : Int} (h1 : 1 ≤ s) (h2 : s < 2 ^ 40) : Tr a 4 (f_law_number [.ptr a, .int s]) fun d => ∃ q, d = dQ q ∧ sm 41 q := by
  rw [c_law_number, u_runB]
  simp [u_seqM, envOf]
  refine Tr.bind (n1 := 1) (n2 := 3) (Tr.draw (by omega) (by omega)) fun d ⟨n, e, n0, n1⟩ => ?_
  subst e
  rw [mkLst_ok (by simp)]
  simp only [mo_pure_bind]
  refine Tr.bind (n1 := 1) (n2 := 2) (Tr.pick (by simp) (by simp)) fun d hd => ?_
  have hr : ∃ r : Int, d = .int r ∧ 1 ≤ r ∧ r < 2 ^ 40 := by
    simp only [List.mem_cons, List.not_mem_nil, or_false] at hd
    rcases hd with rfl | rfl | rfl | rfl
    · exact ⟨1, rfl, by decide, by decide⟩
    · exact ⟨1, rfl, by decide, by decide⟩
    · exact ⟨3, rfl, by decide, by decide⟩
    · exact ⟨s, rfl, h1, h2⟩
  obtain ⟨r, rfl, r1, r2⟩ := hr
  refine Tr.bind (n1 := 1) (n2 := 1) (Tr.draw (by omega) (by omega)) fun d ⟨k, e, k0, k1⟩ => ?_
  subst e
  simp only [add_ii, mo_pure_bind]
  refine Tr.bind (n1 := 1) (n2 := 0) (Tr.draw (by decide) (by decide)) fun d ⟨b, e, b0, b1⟩ => ?_
  subst e
  have hd : (1 + k).natAbs < 2 ^ 41 := by omega
  have hn : n.natAbs < 2 ^ 41 := by omega
  have q1 := q_val (n := n) (d := 1 + k) (by omega) (Nat.lt_of_lt_of_le hd (Nat.pow_le_pow_right (by decide) (by decide)))
  have q2 := q_val (n := 0 - n) (d := 1 + k) (by omega) (Nat.lt_of_lt_of_le hd (Nat.pow_le_pow_right (by decide) (by decide)))
  simp only [cm_eq, mo_pure_bind, toB_bl, sub_ii]
  by_cases c : (b == 0) = true
  · rw [if_pos c, q1]
    exact Tr.pure ⟨_, rfl, sm_divInt (by omega) hn hd⟩
  · rw [if_neg c, q2]
    exact Tr.pure ⟨_, rfl, sm_divInt (by omega) (by omega) hd⟩
theorem dQs_of {m : Nat} : ∀ {ys : List D}, (∀ y, y ∈ ys → ∃ q, y = dQ q ∧ sm m q) → ∃ qs : List Rat, ys = qs.map dQ ∧ smV m qs
  | [], _ => ⟨[], rfl, fun q h => absurd h List.not_mem_nil⟩
  | y :: ys, h => by
    obtain ⟨q, rfl, hq⟩ := h y (List.mem_cons_self ..)
    obtain ⟨qs, rfl, hs⟩ := dQs_of (ys := ys) fun y hy => h y (List.mem_cons_of_mem _ hy)
    refine ⟨q :: qs, rfl, fun z hz => ?_⟩
    rcases List.mem_cons.mp hz with rfl | hz
    · exact hq
    · exact hs z hz
theorem Tr.vector {k : Nat} {s : Int} (hk : k ≤ 1000) (h1 : 1 ≤ s) (h2 : s < 2 ^ 40) : Tr a (k * 9) (f_law_vector [.ptr a, .int (k : Int), .int s]) fun d => ∃ v, d = dV v ∧ v.length = k ∧ smV 41 v := by
  rw [c_law_vector, u_runB]
  simp [u_seqM, envOf]
  rw [rng_i _ (by omega)]
  simp only [mo_pure_bind]
  have hl : ((List.range k).map fun i : Nat => D.int (i : Int)).length = k := by rw [List.length_map, List.length_range]
  have h := Tr.comp (a := a) (n := 9) (P := fun y => ∃ q, y = dQ q ∧ sm 41 q) (one := compOne (asgN 3) tYes (callE (runN 2 f_law_pick) (eCons (eV 0) (eCons (mlsE (eCons (tupE (eCons (eC (.int 0)) (eCons (eC (.int 1)) eNil))) (eCons (callE (runN 2 f_law_number) (eCons (eV 0) (eCons (eV 2) eNil))) (eCons (callE (runN 2 f_law_number) (eCons (eV 0) (eCons (eV 2) eNil))) eNil)))) eNil))) (wipeE [.dat (.ptr a), .dat (.int (k : Int)), .dat (.int s), .un] [3])) (ds := (List.range k).map fun i : Nat => D.int (i : Int)) (fun d hd => ?_)
  · rw [hl] at h
    refine Tr.bind (n1 := k * 9) (n2 := 0) h fun ys ⟨e, p⟩ => ?_
    obtain ⟨qs, rfl, hs⟩ := dQs_of p
    exact Tr.pure ⟨qs, rfl, by rw [← e, List.length_map], hs⟩
  · simp [wipeE]
    refine Tr.bind (n1 := 9) (n2 := 0) (Tr.nox (P := fun y => ∃ q, y = dQ q ∧ sm 41 q) ?_) fun y hy => Tr.pure ⟨y, rfl, hy⟩
    refine Tr.bind (n1 := 4) (n2 := 5) (Tr.number h1 h2) fun d ⟨q1, e1, s1⟩ => ?_
    subst e1
    refine Tr.bind (n1 := 4) (n2 := 1) (Tr.number h1 h2) fun d ⟨q2, e2, s2⟩ => ?_
    subst e2
    rw [mkLst_ok (by simp)]
    refine (Tr.pick (by simp) (by simp)).mono (Nat.le_refl _) fun y hy => ?_
    simp only [List.mem_cons, List.not_mem_nil, or_false] at hy
    rcases hy with rfl | rfl | rfl
    · exact ⟨0, rfl, sm_mono sm_zero (by decide)⟩
    · exact ⟨q1, rfl, s1⟩
    · exact ⟨q2, rfl, s2⟩
end
end TP
end

-- text TpH
section
set_option maxHeartbeats 4000000
set_option autoImplicit false
namespace TP
open PySem PySem.Spec L2 TL
/-! ### the blended numbers meet all numbers -/
def coX : Nat → Int → Int
  | 0, x => x
  | n + 1, x => coX n (x * 69621 + 1)
theorem hash_lin (p : Int) : ∀ (cells : List Int) (x y : Int), ∃ Y, ∀ t b, b % p = (x * t + y) % p → hashC p t cells b % p = (coX cells.length x * t + Y) % p
  | [], x, y => ⟨y, fun t b h => h⟩
  | c :: cs, x, y => by
    obtain ⟨Y, hY⟩ := hash_lin p cs (x * 69621 + 1) (y * 69621 + c)
    refine ⟨Y, fun t b h => hY t _ ?_⟩
    rw [Int.emod_emod_of_dvd _ (Int.dvd_refl p), Int.add_assoc, Int.add_emod, Int.mul_emod, h, ← Int.mul_emod, ← Int.add_emod]
    congr 1
    grind
theorem pow5 (p a b : Int) (h : a % p = b % p) : a ^ 5 % p = b ^ 5 % p := by
  have k : ∀ n : Nat, a ^ n % p = b ^ n % p := fun n => by
    induction n with
    | zero => rw [Int.pow_zero, Int.pow_zero]
    | succ n ih => rw [Int.pow_succ, Int.pow_succ, Int.mul_emod, ih, h, ← Int.mul_emod]
  exact k 5
/-- a turn at which one prime's number is r -/
theorem one_turn (p : Int) (cells : List Int) (u r : Int) (hu : coX cells.length 48271 * u % p = 1 % p) : ∃ τ, ∀ t, t % p = τ % p → hash1 t cells p ^ 5 % p = r ^ 5 % p := by
  obtain ⟨Y, hY⟩ := hash_lin p cells 48271 (p / 53)
  refine ⟨u * (r - Y), fun t ht => pow5 p _ _ ?_⟩
  show hashC p t cells (48271 * t + p / 53) % p = r % p
  rw [hY t _ rfl, Int.add_emod, Int.mul_emod, ht, ← Int.mul_emod, ← Int.add_emod]
  have e : coX cells.length 48271 * (u * (r - Y)) + Y = (coX cells.length 48271 * u) * (r - Y) + Y := by rw [Int.mul_assoc]
  rw [e, Int.add_emod, Int.mul_emod, hu, ← Int.mul_emod, ← Int.add_emod]
  congr 1
  grind
def invs1 : List Int := [1205582182, 779941293, 591703458, 1502032532, 288865675, 880587422, 1352831449, 962017802, 1432699554, 927904781, 128666634, 2063716673, 1877152965, 632197543, 867546538, 638220818, 679381320, 1781127643, 605640528, 2005910369, 1586226135, 2078812342, 1214818027, 1273300047, 947589524, 763901756, 1109188843, 504948053, 1049393938, 1064720707, 802780748, 937220269, 134488313, 938179489, 1650834894, 220938279, 1030310235, 1626523555, 504514476, 361031968, 1145181942, 1867883861, 926760588, 1291869796, 1002280941, 789255486, 1780437747, 710068898, 1553164491, 137339503, 1506768713, 1180438773, 444518459, 1542741782, 1216358227, 1004919072, 66226505, 1331952165, 1913162870, 227089903, 476209765, 132778796, 1776867450, 1632882210]
theorem inv1_ok : ∀ n, n < 64 → coX n 48271 * (invs1.getD n 0) % 2147483579 = 1 % 2147483579 := by decide +kernel
def invs2 : List Int := [275025249, 1140029759, 709356420, 1725644089, 42849082, 1137780967, 545856801, 556070778, 1665992313, 2005717227, 357387723, 542361775, 1455788297, 1946898299, 1957794201, 221409741, 1935166767, 1315911684, 1184215216, 1582920764, 1892912217, 537463907, 581587346, 237745208, 1111030566, 1662203127, 38578365, 866765837, 333295158, 1366951581, 1545534075, 820580757, 1111396485, 1390543369, 1204509690, 791796526, 361742855, 590040259, 897645098, 357370255, 2037655455, 21233134, 1224694070, 1067888065, 1497828202, 1805991292, 30414441, 1146293843, 1919963558, 1784081882, 1059171993, 602173631, 1478438251, 1788902492, 1619219956, 103174550, 1556244951, 1603773266, 724851864, 284764003, 374027230, 1091836693, 551701441, 430413945]
theorem inv2_ok : ∀ n, n < 64 → coX n 48271 * (invs2.getD n 0) % 2147483629 = 1 % 2147483629 := by decide +kernel
def invs3 : List Int := [1419347343, 347557379, 1590066861, 847256278, 1462761509, 1774704950, 487534935, 1971304333, 408940469, 1302925771, 1870179674, 1631053694, 55381432, 2049974403, 667679734, 9873746, 1055874355, 781851530, 474388795, 1520512293, 652726122, 1635078249, 1404607963, 860444482, 1590609095, 1887491724, 2090243197, 112718994, 1304194969, 1093210966, 99323286, 782266491, 1448097156, 1990463639, 1070898647, 211107409, 1224110375, 418275916, 2133384192, 1100529630, 996446619, 2067029230, 1546842161, 1271545874, 297140261, 899193807, 279846889, 1493099733, 1387551531, 885615159, 814974700, 1457353183, 1443336335, 1761273202, 2088426005, 1590067037, 1935868037, 1297077803, 188786117, 25712268, 1481326497, 1260127301, 1238946965, 1915669160]
theorem inv3_ok : ∀ n, n < 64 → coX n 48271 * (invs3.getD n 0) % 2147483563 = 1 % 2147483563 := by decide +kernel
abbrev PP : Int := 9903519516461379889783524533
/-- three turns at once -/
theorem crt (a b c T : Int) : ∃ t, T < t ∧ t ≤ T + PP ∧ t % 2147483579 = a % 2147483579 ∧ t % 2147483629 = b % 2147483629 ∧ t % 2147483563 = c % 2147483563 := by
  refine ⟨T + 1 + (a * 235208588510193165138497345 + b * 1293459670181656490358913329 + c * 8374851257769530234286113860 - T - 1) % PP, ?_, ?_, ?_, ?_, ?_⟩
  all_goals unfold PP
  all_goals omega
def roots : List (Int × Int × Int) := [(0, 1145378622, 987688360), (0, 1769521163, 1754311790), (0, 2075175091, 913080737), (0, 1489591666, 169169961), (0, 1429132231, 747913437), (0, 397120011, 865805585)]
abbrev R9 : Int := 217180147159
/-- the numbers that give a letter at any place -/
def numV (l : Nat) : Int := 8 * (l : Int) * R9
theorem roots_ok : ∀ i, i < 6 → let r := roots.getD i (0, 0, 0); ((0 * 2147483647 + r.1 ^ 5 % 2147483579) * 2147483647 + r.2.1 ^ 5 % 2147483629) * 2147483647 + r.2.2 ^ 5 % 2147483563 = numV (i + 1) := by decide +kernel
theorem free_turn (cells : List Int) (h : cells.length < 64) (T : Int) (i : Nat) (hi : i < 6) : ∃ t, T < t ∧ t ≤ T + PP ∧ blendV t cells = numV (i + 1) := by
  have hr := roots_ok i hi
  generalize roots.getD i (0, 0, 0) = r at hr
  obtain ⟨r1, r2, r3⟩ := r
  obtain ⟨t1, h1⟩ := one_turn 2147483579 cells _ r1 (inv1_ok _ h)
  obtain ⟨t2, h2⟩ := one_turn 2147483629 cells _ r2 (inv2_ok _ h)
  obtain ⟨t3, h3⟩ := one_turn 2147483563 cells _ r3 (inv3_ok _ h)
  obtain ⟨t, e1, e2, e3, e4, e5⟩ := crt t1 t2 t3 T
  refine ⟨t, e1, e2, ?_⟩
  rw [← hr]
  show ((0 * 2147483647 + hash1 t cells 2147483579 ^ 5 % 2147483579) * 2147483647 + hash1 t cells 2147483629 ^ 5 % 2147483629) * 2147483647 + hash1 t cells 2147483563 ^ 5 % 2147483563 = _
  rw [h1 t e3, h2 t e4, h3 t e5]
end TP
end

-- text TpV
section
set_option maxHeartbeats 4000000
set_option autoImplicit false
namespace TP
open PySem PySem.Spec L2 TL
/-! ### how the draws go on -/
/-- the measure goes down -/
def Lt3 (t' t : Drw) : Prop := t.turn < t'.turn ∨ (t'.turn = t.turn ∧ (t'.great.length < t.great.length ∨ (t'.great.length = t.great.length ∧ t'.rest < t.rest)))
theorem Lt3.trans {a b c : Drw} (h1 : Lt3 a b) (h2 : Lt3 b c) : Lt3 a c := by
  unfold Lt3 at *
  omega
theorem drawn_cells (room : Int) (t : Drw) : (drawnT room t).cells = t.cells := by
  unfold drawnT loaded
  by_cases c : t.rest = 0
  · simp only [c, if_true]
    cases t.great <;> rfl
  · simp only [if_neg c]
theorem loaded_ne {t : Drw} (h : t.rest ≠ 0) : loaded t = t := by
  unfold loaded
  rw [if_neg h]
theorem drawn_cases {a : Addr} {t : Drw} {room τ : Int} (h : Ok1 a t) (hr : 2 ≤ room) (ht : t.turn < τ) :
    ((drawnT room t).turn < τ ∧ Lt3 (drawnT room t) t) ∨ ((loaded t).rest = blendV τ t.cells ∧ (drawnT room t).rest = blendV τ t.cells / room ∧ (drawnT room t).turn = τ) := by
  have h0 := h.r0
  by_cases c : t.rest = 0
  · cases e : t.great with
    | nil =>
      have e1 : loaded t = { nextT t with rest := blendV (t.turn + 1) t.cells } := by
        unfold loaded
        rw [if_pos c, e]
      have e2 : (drawnT room t).turn = t.turn + 1 := by
        unfold drawnT
        rw [e1] <;> rfl
      by_cases q : t.turn + 1 = τ
      · refine .inr ⟨by rw [e1, ← q], ?_, by rw [e2, q]⟩
        unfold drawnT
        rw [e1, ← q]
      · exact .inl ⟨by rw [e2]; omega, .inl (by rw [e2]; omega)⟩
    | cons x r =>
      have e1 : loaded t = { t with great := r, rest := x } := by
        unfold loaded
        rw [if_pos c, e]
      have e2 : (drawnT room t).turn = t.turn := by
        unfold drawnT
        rw [e1]
      have e3 : (drawnT room t).great = r := by
        unfold drawnT
        rw [e1]
      exact .inl ⟨by rw [e2]; exact ht, .inr ⟨e2, .inl (by rw [e3, e]; exact Nat.lt_succ_self _)⟩⟩
  · have e1 := loaded_ne c
    have e2 : drawnT room t = { t with rest := t.rest / room } := by
      unfold drawnT
      rw [e1]
    refine .inl ⟨by rw [e2]; exact ht, .inr ⟨by rw [e2], .inr ⟨by rw [e2], ?_⟩⟩⟩
    rw [e2]
    show t.rest / room < t.rest
    exact Int.ediv_lt_self_of_pos_of_ne_one (by omega) (by omega)
/-- so many letters -/
def lets : Nat → Drw → List Int × Drw
  | 0, t => ([], t)
  | k + 1, t => (((loaded t).rest % 26) :: (lets k (drawnT 26 t)).1, (lets k (drawnT 26 t)).2)
theorem lets_ok {a : Addr} : ∀ (k : Nat) {t : Drw}, Ok1 a t → Ok1 a (lets k t).2 ∧ (lets k t).2.turn ≤ t.turn + k ∧ (lets k t).1.length = k ∧ (∀ i, i ∈ (lets k t).1 → 0 ≤ i ∧ i < 26) ∧ (lets k t).2.cells = t.cells
  | 0, t, h => ⟨h, by show t.turn ≤ _; omega, rfl, (fun i hi => absurd hi (List.not_mem_nil)), rfl⟩
  | k + 1, t, h => by
    obtain ⟨h1, h2⟩ := drawn_ok (room := 26) h (by decide)
    obtain ⟨i1, i2, i3, i4, i5⟩ := lets_ok k h1
    refine ⟨i1, by show (lets k (drawnT 26 t)).2.turn ≤ _; omega, by show (lets k (drawnT 26 t)).1.length + 1 = _; omega, fun i hi => ?_, by show (lets k (drawnT 26 t)).2.cells = _; rw [i5, drawn_cells]⟩
    rcases List.mem_cons.mp (show i ∈ ((loaded t).rest % 26) :: (lets k (drawnT 26 t)).1 from hi) with rfl | hi
    · exact ⟨Int.emod_nonneg _ (by decide), Int.emod_lt_of_pos _ (by decide)⟩
    · exact i4 i hi
def numB (l : Nat) : Bool := decide (numV l % 8 = 0) && (decide (numV l / 8 ≠ 0) && (decide (numV l / 8 % 26 = l) && (List.range 9).all fun j => decide (numV l / 26 ^ j ≠ 0) && (decide (j = 0) || (decide (numV l / 26 ^ j / 8 ≠ 0) && decide (numV l / 26 ^ j / 8 % 26 = l)))))
theorem numB_ok : ((List.range 7).all fun l => decide (l = 0) || numB l) = true := by decide +kernel
theorem numV_facts (l : Nat) (hl : l < 7) (h1 : 1 ≤ l) : numV l % 8 = 0 ∧ numV l / 8 ≠ 0 ∧ numV l / 8 % 26 = l ∧ ∀ j, j < 9 → numV l / 26 ^ j ≠ 0 ∧ (1 ≤ j → numV l / 26 ^ j / 8 ≠ 0 ∧ numV l / 26 ^ j / 8 % 26 = l) := by
  have h := List.all_eq_true.mp numB_ok l (List.mem_range.mpr hl)
  rw [Bool.or_eq_true, decide_eq_true_eq] at h
  have h : numB l = true := h.resolve_left (by omega)
  unfold numB at h
  simp only [Bool.and_eq_true, decide_eq_true_eq] at h
  obtain ⟨a, b, c, d⟩ := h
  refine ⟨a, b, c, fun j hj => ?_⟩
  have := List.all_eq_true.mp d j (List.mem_range.mpr hj)
  rw [Bool.and_eq_true, decide_eq_true_eq, Bool.or_eq_true, decide_eq_true_eq, Bool.and_eq_true, decide_eq_true_eq, decide_eq_true_eq] at this
  exact ⟨this.1, fun j1 => this.2.resolve_left (by omega)⟩
theorem lets_run {l : Nat} (hl : l < 7) (h1 : 1 ≤ l) : ∀ (k j : Nat) (t : Drw), j + k < 9 → t.rest = numV l / 26 ^ j → (lets k t).2.rest = numV l / 26 ^ (j + k)
  | 0, j, t, _, h => h
  | k + 1, j, t, hj, h => by
    have hne : t.rest ≠ 0 := by
      rw [h]
      exact ((numV_facts l hl h1).2.2.2 j (by omega)).1
    have e : (drawnT 26 t).rest = numV l / 26 ^ (j + 1) := by
      unfold drawnT
      rw [loaded_ne hne]
      show t.rest / 26 = _
      rw [h, Int.ediv_ediv_of_nonneg (by exact_mod_cast Nat.zero_le _), Int.pow_succ]
    have := lets_run hl h1 k (j + 1) (drawnT 26 t) (by omega) e
    show (lets k (drawnT 26 t)).2.rest = _
    rw [this, show j + 1 + k = j + (k + 1) by omega]
theorem lets_cases {a : Addr} {l : Nat} {τ : Int} (hl : l < 7) (h1 : 1 ≤ l) : ∀ (k : Nat) {t : Drw}, Ok1 a t → t.turn < τ → blendV τ t.cells = numV l → k < 9 →
    ((lets k t).2.turn < τ ∧ ((lets k t).2 = t ∨ Lt3 (lets k t).2 t)) ∨ ∃ j, 1 ≤ j ∧ j < 9 ∧ (lets k t).2.rest = numV l / 26 ^ j
  | 0, t, _, ht, _, _ => .inl ⟨ht, .inl rfl⟩
  | k + 1, t, ok, ht, hv, hk => by
    show ((lets k (drawnT 26 t)).2.turn < τ ∧ ((lets k (drawnT 26 t)).2 = t ∨ Lt3 (lets k (drawnT 26 t)).2 t)) ∨ ∃ j, 1 ≤ j ∧ j < 9 ∧ (lets k (drawnT 26 t)).2.rest = numV l / 26 ^ j
    rcases drawn_cases (room := 26) ok (by decide) ht with ⟨q1, q2⟩ | ⟨q1, q2, q3⟩
    · rcases lets_cases hl h1 k (drawn_ok (room := 26) ok (by decide)).1 q1 (by rw [drawn_cells]; exact hv) (by omega) with ⟨p1, p2⟩ | p
      · refine .inl ⟨p1, .inr ?_⟩
        rcases p2 with p2 | p2
        · rw [p2]; exact q2
        · exact p2.trans q2
      · exact .inr p
    · refine .inr ⟨1 + k, by omega, by omega, lets_run hl h1 k 1 _ (by omega) ?_⟩
      rw [q2, hv]
      rfl
/-- the next word begins with the letter l -/
def Hit (l : Nat) (t : Drw) : Prop := t.rest ≠ 0 ∧ t.rest / 8 ≠ 0 ∧ t.rest / 8 % 26 = l
def wdN (t : Drw) : Nat := ((loaded t).rest % 8).toNat + 1
def wd (t : Drw) : List Int × Drw := lets (wdN t) (drawnT 8 t)
theorem wdN_lt (t : Drw) : wdN t < 9 := by
  unfold wdN
  have h1 := Int.emod_nonneg (loaded t).rest (b := 8) (by decide)
  have h2 := Int.emod_lt_of_pos (loaded t).rest (b := 8) (by decide)
  omega
theorem wd_ok {a : Addr} {t : Drw} (h : Ok1 a t) : Ok1 a (wd t).2 ∧ (wd t).2.turn ≤ t.turn + 9 ∧ (wd t).1.length = wdN t ∧ (∀ i, i ∈ (wd t).1 → 0 ≤ i ∧ i < 26) ∧ (wd t).2.cells = t.cells := by
  obtain ⟨h1, h2⟩ := drawn_ok (room := 8) h (by decide)
  obtain ⟨i1, i2, i3, i4, i5⟩ := lets_ok (wdN t) h1
  have := wdN_lt t
  exact ⟨i1, by show (lets (wdN t) (drawnT 8 t)).2.turn ≤ _; omega, i3, i4, by show (lets (wdN t) (drawnT 8 t)).2.cells = _; rw [i5, drawn_cells]⟩
theorem wd_first {l : Nat} {t : Drw} (h : (loaded t).rest / 8 ≠ 0) (h2 : (loaded t).rest / 8 % 26 = l) : ∃ r, (wd t).1 = (l : Int) :: r := by
  refine ⟨(lets ((loaded t).rest % 8).toNat (drawnT 26 (drawnT 8 t))).1, ?_⟩
  show ((loaded (drawnT 8 t)).rest % 26) :: _ = _
  have e : (drawnT 8 t).rest = (loaded t).rest / 8 := rfl
  rw [loaded_ne (by rw [e]; exact h), e, h2]
theorem wd_hit {l : Nat} {t : Drw} (h : Hit l t) : ∃ r, (wd t).1 = (l : Int) :: r := by
  obtain ⟨h0, h1, h2⟩ := h
  exact wd_first (by rw [loaded_ne h0]; exact h1) (by rw [loaded_ne h0]; exact h2)
theorem wd_cases {a : Addr} {l : Nat} {τ : Int} (hl : l < 7) (h1 : 1 ≤ l) {t : Drw} (ok : Ok1 a t) (ht : t.turn < τ) (hv : blendV τ t.cells = numV l) :
    ((wd t).2.turn < τ ∧ Lt3 (wd t).2 t) ∨ (∃ r, (wd t).1 = (l : Int) :: r) ∨ Hit l (wd t).2 := by
  obtain ⟨n1, n2, n3, n4⟩ := numV_facts l hl h1
  rcases drawn_cases (room := 8) ok (by decide) ht with ⟨q1, q2⟩ | ⟨q1, q2, q3⟩
  · rcases lets_cases hl h1 (wdN t) (drawn_ok (room := 8) ok (by decide)).1 q1 (by rw [drawn_cells]; exact hv) (wdN_lt t) with ⟨p1, p2⟩ | ⟨j, j1, j2, p⟩
    · refine .inl ⟨p1, ?_⟩
      rcases p2 with p2 | p2
      · show Lt3 (lets (wdN t) (drawnT 8 t)).2 t
        rw [p2]; exact q2
      · exact p2.trans q2
    · obtain ⟨m1, m2⟩ := n4 j j2
      exact .inr (.inr ⟨by show (lets (wdN t) (drawnT 8 t)).2.rest ≠ 0; rw [p]; exact m1, by show (lets (wdN t) (drawnT 8 t)).2.rest / 8 ≠ 0; rw [p]; exact (m2 j1).1, by show (lets (wdN t) (drawnT 8 t)).2.rest / 8 % 26 = _; rw [p]; exact (m2 j1).2⟩)
  · exact .inr (.inl (wd_first (by rw [q1, hv]; exact n2) (by rw [q1, hv]; exact n3)))
end TP
end

-- text TpW
section
set_option maxHeartbeats 4000000
set_option autoImplicit false
namespace TP
open PySem PySem.Spec L2 TL
/-! ### words -/
def wS (w : List Nat) : Str := ⟨w.toArray⟩
abbrev sD (w : List Nat) : D := .str (wS w)
def letS (i : Int) : Str := ⟨#[(97 + i).toNat]⟩
def wordOf (l : List Int) : List Nat := l.map fun i => (97 + i).toNat
theorem wS_inj {a b : List Nat} (h : wS a = wS b) : a = b := by
  unfold wS at h
  injection h with h
  exact List.toArray_inj h
/-- letters only, one to eight -/
def gw (w : List Nat) : Prop := 1 ≤ w.length ∧ w.length ≤ 8 ∧ ∀ c, c ∈ w → 97 ≤ c ∧ c ≤ 122
theorem okS_of {w : List Nat} (h : ∀ c, c ∈ w → c < 1114112) : okS (wS w) := by
  show ((PyData.str (wS w)).canLay0 && decide ((PyData.str (wS w)).depth ≤ 64)) = true
  have e : (PyData.str (wS w)).canLay0 = true := by
    show (wS w).cps.all (· < 0x110000) = true
    unfold wS
    rw [Array.all_eq_true_iff_forall_mem]
    intro c hc
    exact decide_eq_true (h c (by simpa using hc))
  rw [e] <;> rfl
theorem gw_okS {w : List Nat} (h : gw w) : okS (wS w) := okS_of fun c hc => Nat.lt_of_le_of_lt (h.2.2 c hc).2 (by decide)
theorem join_ones : ∀ l : List Int, Txt.join "" (l.map letS) = wS (wordOf l) := by
  intro l
  show Builtin.Str.glued "" (l.map letS) = _
  have e : (("" : Str) : Str).cps = #[] := by decide +kernel
  have k : ∀ (r : List Int) (acc : Array Nat), (r.map letS).foldl (fun acc p => acc ++ (("" : Str) : Str).cps ++ p.cps) acc = acc ++ (wordOf r).toArray := by
    intro r
    induction r with
    | nil => intro acc; simp [wordOf]
    | cons i r ih =>
      intro acc
      rw [List.map_cons, List.foldl_cons, ih, e]
      show acc ++ #[] ++ #[(97 + i).toNat] ++ (wordOf r).toArray = acc ++ ((97 + i).toNat :: wordOf r).toArray
      simp
  cases l with
  | nil => rfl
  | cons i r =>
    unfold Builtin.Str.glued wS
    congr 1
    show (r.map letS).foldl (fun acc p => acc ++ (("" : Str) : Str).cps ++ p.cps) #[(97 + i).toNat] = _
    rw [k]
    show #[(97 + i).toNat] ++ (wordOf r).toArray = ((97 + i).toNat :: wordOf r).toArray
    simp
theorem strsO_map (ws : List Str) : strsO (ws.map D.str) = some ws := by
  induction ws with
  | nil => rfl
  | cons w ws ih =>
    show (strsO (ws.map D.str)).map (w :: ·) = _
    rw [ih] <;> rfl
theorem join_val {l : List Int} (h : l.length ≤ 8) : joinO "" (.lst (l.map fun i => D.str (letS i))) = some (sD (wordOf l)) := by
  have e1 : lstO (.lst (l.map fun i => D.str (letS i))) = some ((l.map letS).map D.str) := by rw [List.map_map] <;> rfl
  unfold joinO
  rw [e1]
  show ((strsO ((l.map letS).map D.str)).bind _) = _
  rw [strsO_map]
  show (if _ then some (D.str (Txt.join "" (l.map letS))) else none) = _
  rw [if_pos, join_ones]
  have z : (("" : Str) : Str).length = 0 := by decide +kernel
  have o : ((l.map letS).map (·.length)).sum = l.length := by
    clear h e1
    induction l with
    | nil => rfl
    | cons i r ih => rw [List.map_cons, List.map_cons, List.sum_cons, ih, List.length_cons]; show 1 + r.length = _; omega
  rw [o, z]
  show l.length + _ * 0 ≤ 1000000
  omega
def alph : List D := (List.range 26).map fun i => .str ⟨#[97 + i]⟩
theorem alph_val : listD [.str "abcdefghijklmnopqrstuvwxyz"] = pure (.lst alph) := by
  show (if (("abcdefghijklmnopqrstuvwxyz" : Str)).cps.size ≤ 1000 then (pure (.lst ((("abcdefghijklmnopqrstuvwxyz" : Str)).cps.toList.map fun c => .str ⟨#[c]⟩)) : Mo D) else Mo.fail) = _
  have e : (("abcdefghijklmnopqrstuvwxyz" : Str)).cps = ((List.range 26).map fun i => 97 + i).toArray := by decide +kernel
  rw [e, if_pos (by decide)]
  unfold alph
  rw [List.map_map] <;> rfl
/-- exactly what a pick does -/
theorem pick_at {a : Addr} {t : Drw} {xs : List D} {d : D} (ok : Ok1 a t) (b : t.turn + 1 < TOP) (hl : xs.length < 2 ^ 50) (hp : 0 < xs.length) (hd : xs[((loaded t).rest % xs.length).toNat]? = some d) : f_law_pick [.ptr a, .lst xs] (some t) = .ok d (some (drawnT xs.length t)) := by
  have hl' : (xs.length : Int) < 2 ^ 50 := by exact_mod_cast hl
  rw [c_law_pick, u_runB]
  simp [u_seqM, envOf]
  rw [bind_at (draw_at ok b (by omega) (by omega))]
  have := ixl_nat xs ((loaded t).rest % xs.length).toNat
  rw [Int.toNat_of_nonneg (Int.emod_nonneg _ (by omega)), hd] at this
  rw [this] <;> rfl
theorem comp_lets {a : Addr} {one : D → Mo (Option D)} (h : ∀ d t, Ok1 a t → t.turn + 1 < TOP → one d (some t) = .ok (some (.str (letS ((loaded t).rest % 26)))) (some (drawnT 26 t))) : ∀ (ds : List D) (t : Drw), Ok1 a t → t.turn + ds.length < TOP →
    compGo one ds (some t) = .ok ((lets ds.length t).1.map fun i => D.str (letS i)) (some (lets ds.length t).2)
  | [], t, _, _ => rfl
  | d :: ds, t, ok, b => by
    rw [List.length_cons] at b
    obtain ⟨h1, h2⟩ := drawn_ok (room := 26) ok (by decide)
    have ih := comp_lets h ds (drawnT 26 t) h1 (by omega)
    show ((one d) >>= fun o => (compGo one ds) >>= fun r => pure (match o with
      | some y => y :: r
      | none => r)) (some t) = _
    rw [bind_at (h d t ok (by omega)), bind_at ih] <;> rfl
noncomputable def wC : Ev → Mo Bool := (tstB (cmE .Lt (callE lenD (eCons (eV 2) eNil)) (eV 1)))
noncomputable def wJ : Ev → Mo D := (joinE (eC (.str "")) (lstE (lcC (asgN 4) tYes (callE (runN 2 f_law_pick) (eCons (eV 0) (eCons (callE listD (eCons (eC (.str "abcdefghijklmnopqrstuvwxyz")) eNil)) eNil))) [4] (rngI 1 (eCons (eO addD (eC (.int 1)) (callE (runN 2 f_law_draw) (eCons (eV 0) (eCons (eC (.int 8)) eNil)))) eNil)))))
noncomputable def wB : Ev → Mo (Fl × Ev) := (seqM (sSet 3 wJ) (seqM (sSet 2 (eO addD (eV 2) (iteM (tstB (cmE .NotIn (eV 3) (eV 2))) (mlsE (eCons (eV 3) eNil)) (iteM (tAnd (tstB (cmE .NotIn (eO addD (slE (eV 3) eN (eS (eC (.int 1)))) (eO multD (eC (.str "q")) (callE lenD (eCons (eV 2) eNil)))) (eV 2))) (tstB (cmE .Lt (callE lenD (eCons (eV 2) eNil)) (eC (.int 8))))) (mlsE (eCons (eO addD (slE (eV 3) eN (eS (eC (.int 1)))) (eO multD (eC (.str "q")) (callE lenD (eCons (eV 2) eNil)))) eNil)) (mlsE eNil))))) sNx))
/-- the found words, one lap on -/
def altW (found : List (List Nat)) (w : List Nat) : List Nat := w.take 1 ++ List.replicate found.length 113
def nextW (found : List (List Nat)) (w : List Nat) : List (List Nat) := if w ∉ found then found ++ [w] else if altW found w ∉ found ∧ found.length < 8 then found ++ [altW found w] else found
theorem pb {α β : Type} (a : α) (f : α → Mo β) : ((pure a : Mo α) >>= f) = f a := id (mo_pure_bind a f)
theorem ex_bind {α β : Type} {m : Mo α} {k : α → Mo β} {g g' : G} {v : α} {R : Sl → Sl → Res β} (h : m g = .ok v g') (hk : ∃ y y', k v g' = R y y') : ∃ y y', (m >>= k) g = R y y' := by
  obtain ⟨y, y', e⟩ := hk
  exact ⟨y, y', by rw [bind_at h, e]⟩
theorem c_words : f_law_words = runB (seqM (sSet 2 (mlsE eNil)) (seqM (whD wC wB) (seqM (sRt (callE sortedD (eCons (eV 2) eNil))) sNx))) 5 := rfl
theorem wJ_at {a : Addr} {t : Drw} (ok : Ok1 a t) (b : t.turn + 10 < TOP) {d1 d2 : D} {y3 y4 : Sl} : wJ [.dat (.ptr a), .dat d1, .dat d2, y3, y4] (some t) = .ok (sD (wordOf (wd t).1)) (some (wd t).2) := by
  obtain ⟨o1, o2⟩ := drawn_ok (room := 8) ok (by decide)
  have w1 := wdN_lt t
  obtain ⟨u1, u2, u3, u4, u5⟩ := wd_ok ok
  have dd : f_law_draw [.ptr a, .int 8] (some t) = .ok (.int ((loaded t).rest % 8)) (some (drawnT 8 t)) := draw_at (room := 8) ok (by omega) (by decide) (by decide)
  unfold wJ
  simp
  rw [show ∀ m, joinD (.str "") m = (m >>= fun xs => Mo.of (joinO "" xs)) from fun _ => rfl]
  simp only [mo_assoc]
  rw [bind_at dd]
  have n0 := Int.emod_nonneg (loaded t).rest (b := 8) (by decide)
  have e1 : (1 : Int) + (loaded t).rest % 8 = ((wdN t : Nat) : Int) := by
    unfold wdN
    omega
  have e2 : addD (.int 1) (.int ((loaded t).rest % 8)) = pure (.int ((wdN t : Nat) : Int)) := by
    rw [add_ii, e1]
  rw [e2, pb, rng_i _ (by omega), pb]
  have hl : ((List.range (wdN t)).map fun i : Nat => D.int (i : Int)).length = wdN t := by rw [List.length_map, List.length_range]
  have hc := comp_lets (one := compOne (asgN 4) tYes (callE (runN 2 f_law_pick) (eCons (eV 0) (eCons (callE listD (eCons (eC (.str "abcdefghijklmnopqrstuvwxyz")) eNil)) eNil))) (wipeE [.dat (.ptr a), .dat d1, .dat d2, y3, y4] [4])) (fun d t' ok' b' => ?_) ((List.range (wdN t)).map fun i : Nat => D.int (i : Int)) (drawnT 8 t) o1 (by rw [hl]; omega)
  · rw [hl] at hc
    rw [bind_at hc, pb]
    have := join_val (l := (wd t).1) (by rw [u3]; omega)
    show (Mo.of (joinO "" (.lst ((wd t).1.map fun i => D.str (letS i))))) _ = _
    rw [this] <;> rfl
  · have hal : alph.length = 26 := by unfold alph; rw [List.length_map, List.length_range]
    have n0 := Int.emod_nonneg (loaded t').rest (b := 26) (by decide)
    have n1 := Int.emod_lt_of_pos (loaded t').rest (b := 26) (by decide)
    have hp : f_law_pick [.ptr a, .lst alph] (some t') = .ok (.str (letS ((loaded t').rest % 26))) (some (drawnT 26 t')) := by
      have := pick_at (xs := alph) (d := .str (letS ((loaded t').rest % 26))) ok' b' (by rw [hal]; decide) (by rw [hal]; decide) (by
        rw [hal]
        unfold alph
        rw [List.getElem?_map, List.getElem?_range (by show ((loaded t').rest % 26).toNat < 26; omega)]
        have e9 : (97 + (loaded t').rest % 26).toNat = 97 + ((loaded t').rest % 26).toNat := by omega
        unfold letS
        rw [e9] <;> rfl)
      rw [hal] at this
      exact this
    have e3 : (nox (f_law_pick [.ptr a, .lst alph])) (some t') = .ok (.str (letS ((loaded t').rest % 26))) (some (drawnT 26 t')) := by
      unfold nox
      rw [hp]
    simp [wipeE, alph_val]
    rw [bind_at e3] <;> rfl
theorem take1_S (w : List Nat) : slD (sD w) none (some 1) = (if (wS w).length ≤ lim then pure (.str (cutS (wS w) none (some 1))) else Mo.fail) := rfl
theorem wS_len (w : List Nat) : (wS w).length = w.length := by
  show w.toArray.size = _
  simp
theorem cut1 {w : List Nat} (h : 1 ≤ w.length) : cutS (wS w) none (some 1) = wS (w.take 1) := by
  unfold cutS
  have e1 : HT.sIx (wS w).length 0 none = 0 := rfl
  have e2 : HT.sIx (wS w).length (wS w).length (some 1) = 1 := by
    have := HT.sIx_nat (wS w).length (wS w).length 1
    rw [wS_len] at this ⊢
    rw [show ((1 : Nat) : Int) = 1 from rfl] at this
    rw [this]
    omega
  rw [e1, e2]
  rfl
theorem repQ (n : Nat) : repS "q" (n : Int) = wS (List.replicate n 113) := by
  have e : (("q" : Str)).cps.toList = [113] := by decide +kernel
  unfold repS wS
  rw [e, Int.toNat_natCast]
  congr 2
  induction n with
  | zero => rfl
  | succ n ih => rw [List.replicate_succ, List.flatten_cons, ih, List.replicate_succ] <;> rfl
theorem q_len : (("q" : Str)).length = 1 := by decide +kernel
theorem mulQ {n : Nat} (h : n ≤ 1000) : multD (.str "q") (.int (n : Int)) = pure (sD (List.replicate n 113)) := by
  show (if 0 ≤ (n : Int) ∧ (n : Int) ≤ 1000 ∧ (("q" : Str)).length ≤ 1000 then (pure (.str (repS "q" (n : Int))) : Mo D) else Mo.fail) = _
  rw [if_pos ⟨by omega, by omega, by rw [q_len]; decide⟩, repQ]
theorem addS {a b : List Nat} (h : a.length + b.length ≤ 1000) : addD (sD a) (sD b) = pure (sD (a ++ b)) := by
  show (if (wS a).length + (wS b).length ≤ lim then (pure (.str (wS a ++ wS b)) : Mo D) else Mo.fail) = _
  rw [wS_len, wS_len, if_pos (Nat.le_trans h (by decide))]
  have e : wS a ++ wS b = wS (a ++ b) := by
    show (⟨a.toArray ++ b.toArray⟩ : Str) = ⟨(a ++ b).toArray⟩
    simp
  rw [e]
theorem add_lst {xs ys : List D} (h : xs.length + ys.length ≤ 1000) : addD (.lst xs) (.lst ys) = pure (.lst (xs ++ ys)) := if_pos (Nat.le_trans h (by decide))
theorem add_tup {xs ys : List D} (h : xs.length + ys.length ≤ 1000) : addD (.tup xs) (.tup ys) = pure (.tup (xs ++ ys)) := if_pos (Nat.le_trans h (by decide))
theorem sD_map (l : List (List Nat)) : l.map sD = (l.map wS).map D.str := by rw [List.map_map] <;> rfl
theorem nin_words {w : List Nat} {l : List (List Nat)} (hw : okS (wS w)) (h : ∀ x, x ∈ l → gw x) : cmF .NotIn (sD w) (.lst (l.map sD)) = pure (.bl (decide (w ∉ l))) := by
  rw [sD_map, nin_lst hw (fun z hz => by
    obtain ⟨x, hx, rfl⟩ := List.mem_map.mp hz
    exact gw_okS (h x hx))]
  congr 2
  have : (wS w ∈ l.map wS) ↔ w ∈ l := by
    constructor
    · intro h
      obtain ⟨x, hx, e⟩ := List.mem_map.mp h
      rwa [← wS_inj e]
    · intro h
      exact List.mem_map.mpr ⟨w, h, rfl⟩
  by_cases c : w ∈ l
  · rw [decide_eq_true (this.mpr c), decide_eq_false (fun z => z c)] <;> rfl
  · rw [decide_eq_false (fun z => c (this.mp z)), decide_eq_true c] <;> rfl
theorem gw_alt {found : List (List Nat)} {w : List Nat} (hw : gw w) (hf : found.length ≤ 6) : gw (altW found w) := by
  obtain ⟨h1, h2, h3⟩ := hw
  unfold altW
  refine ⟨?_, ?_, fun c hc => ?_⟩
  · rw [List.length_append, List.length_take, List.length_replicate]; omega
  · rw [List.length_append, List.length_take, List.length_replicate]; omega
  · rcases List.mem_append.mp hc with hc | hc
    · exact h3 c (List.mem_of_mem_take hc)
    · rw [List.eq_of_mem_replicate hc]; decide
theorem wB_at {a : Addr} {t : Drw} (ok : Ok1 a t) (b : t.turn + 10 < TOP) {found : List (List Nat)} (hf : found.length ≤ 6) (hg : ∀ w, w ∈ found → gw w) {m : D} {y3 y4 : Sl} :
    wB [.dat (.ptr a), .dat m, .dat (.lst (found.map sD)), y3, y4] (some t) = .ok (.nx, [.dat (.ptr a), .dat m, .dat (.lst ((nextW found (wordOf (wd t).1)).map sD)), .dat (sD (wordOf (wd t).1)), y4]) (some (wd t).2) := by
  have w1 := wdN_lt t
  obtain ⟨u1, u2, u3, u4, u5⟩ := wd_ok ok
  have hj := wJ_at (d1 := m) (d2 := .lst (found.map sD)) (y3 := y3) (y4 := y4) ok b
  have hne : wordOf (wd t).1 ≠ [] := fun z => by
    have := congrArg List.length z
    unfold wordOf at this
    rw [List.length_map, u3] at this
    unfold wdN at this
    cases this
  have lw : (wordOf (wd t).1).length ≤ 8 := by
    unfold wordOf
    rw [List.length_map, u3]
    omega
  have gwd : gw (wordOf (wd t).1) := ⟨List.length_pos_iff.mpr hne, lw, fun c hc => by
    obtain ⟨i, hi, rfl⟩ := List.mem_map.mp hc
    have := u4 i hi
    omega⟩
  generalize wordOf (wd t).1 = w at *
  have ga := gw_alt (found := found) gwd hf
  have k1 := nin_words (gw_okS gwd) hg
  have k2 := nin_words (gw_okS ga) hg
  have k3 : slD (sD w) none (some 1) = pure (sD (w.take 1)) := by
    rw [take1_S, if_pos (by rw [wS_len]; exact Nat.le_trans lw (by decide)), cut1 gwd.1]
  have k4 := mulQ (n := found.length) (by omega)
  have k5 : addD (sD (w.take 1)) (sD (List.replicate found.length 113)) = pure (sD (altW found w)) := addS (by rw [List.length_take, List.length_replicate]; omega)
  have k6 : ∀ x, addD (.lst (found.map sD)) (.lst [sD x]) = pure (.lst ((found ++ [x]).map sD)) := fun x => by
    rw [add_lst (by rw [List.length_map]; show found.length + 1 ≤ 1000; omega), List.map_append] <;> rfl
  have k7 : addD (.lst (found.map sD)) (.lst []) = pure (.lst (found.map sD)) := by
    rw [add_lst (by rw [List.length_map]; show found.length + 0 ≤ 1000; omega), List.append_nil]
  have k8 : (found.length : Int) < 8 := by omega
  have k9 : intO (.int 1) = some (some 1) := rfl
  have m0 : mkLst [] = pure (.lst []) := rfl
  unfold wB
  simp only [u_seqM, u_sSet]
  show ((wJ _ >>= fun d => _) >>= _) _ = _
  rw [mo_assoc, bind_at hj]
  refine congrFun (a := some (wd t).2) (g := (pure (Fl.nx, [.dat (.ptr a), .dat m, .dat (.lst ((nextW found w).map sD)), .dat (sD w), y4]) : Mo (Fl × Ev))) ?_
  have m1 : ∀ x : D, mkLst [x] = pure (.lst [x]) := fun _ => rfl
  unfold nextW
  by_cases c1 : w ∉ found
  · rw [if_pos c1]
    simp [-List.map_append, k1, c1, m1, k6]
    rfl
  · rw [if_neg c1]
    by_cases c2 : altW found w ∉ found ∧ found.length < 8
    · rw [if_pos c2]
      simp [-List.map_append, k1, c1, m1, k6, k3, k4, k5, k2, k8, k9, c2.1]
      rfl
    · rw [if_neg c2]
      have c3 : ¬ (altW found w ∉ found) := fun z => c2 ⟨z, by omega⟩
      simp [-List.map_append, k1, c1, m1, k6, k3, k4, k5, k2, k8, k9, c3, m0, k7]
      rfl
/-! ### the loop ends -/
theorem wh_at {c : Ev → Mo Bool} {b : Ev → Mo (Fl × Ev)} {n : Nat} {env env' : Ev} {g g' : G} (h1 : c env = pure true) (h2 : b env g = .ok (.nx, env') g') : whN c b (n + 1) env g = whN c b n env' g' := by
  show whS c b (whN c b n) env g = _
  unfold whS
  rw [h1]
  show (b env >>= fun r => match r with
    | (.nx, env2) => whN c b n env2
    | (.ct, env2) => whN c b n env2
    | (.bk, env2) => pure (.nx, env2)
    | (.ret d, env2) => pure (.ret d, env2)) g = _
  rw [bind_at h2]
abbrev wE (a : Addr) (many : Nat) (found : List (List Nat)) (y3 y4 : Sl) : Ev := [.dat (.ptr a), .dat (.int (many : Int)), .dat (.lst (found.map sD)), y3, y4]
theorem wC_at {a : Addr} {many : Nat} {found : List (List Nat)} {y3 y4 : Sl} : wC (wE a many found y3 y4) = pure (decide (found.length < many)) := by
  unfold wC
  simp
theorem nextW_cases {found : List (List Nat)} {w : List Nat} (hw : gw w) (hf : found.length ≤ 6) : nextW found w = found ∨ ∃ w', nextW found w = found ++ [w'] ∧ gw w' ∧ w' ∉ found := by
  unfold nextW
  by_cases c : w ∉ found
  · rw [if_pos c]
    exact .inr ⟨w, rfl, hw, c⟩
  · rw [if_neg c]
    by_cases c2 : altW found w ∉ found ∧ found.length < 8
    · rw [if_pos c2]
      exact .inr ⟨_, rfl, gw_alt hw hf, c2.1⟩
    · rw [if_neg c2]
      exact .inl rfl
theorem wd_gw {a : Addr} {t : Drw} (ok : Ok1 a t) : gw (wordOf (wd t).1) := by
  have w1 := wdN_lt t
  obtain ⟨u1, u2, u3, u4, u5⟩ := wd_ok ok
  refine ⟨?_, ?_, fun c hc => ?_⟩
  · unfold wordOf
    rw [List.length_map, u3]
    unfold wdN
    omega
  · unfold wordOf
    rw [List.length_map, u3]
    omega
  · obtain ⟨i, hi, rfl⟩ := List.mem_map.mp hc
    have := u4 i hi
    omega
section
variable {a : Addr} {many l : Nat} {found : List (List Nat)} {τ : Int}
/-- the loop goes on to a state with one word more -/
def Grows (a : Addr) (many : Nat) (found : List (List Nat)) (t : Drw) (y3 y4 : Sl) (B : Int) : Prop :=
  ∃ k w' t' y3', (∀ n, whN wC wB (n + k) (wE a many found y3 y4) (some t) = whN wC wB n (wE a many (found ++ [w']) y3' y4) (some t')) ∧ gw w' ∧ w' ∉ found ∧ Ok1 a t' ∧ t'.turn ≤ B
theorem grow_one {t : Drw} {y3 y4 : Sl} {B : Int} (ok : Ok1 a t) (b : t.turn + 10 < TOP) (hm : found.length < many) (h6 : many ≤ 6) (hg : ∀ w, w ∈ found → gw w) (hB : t.turn + 9 ≤ B) (hn : nextW found (wordOf (wd t).1) ≠ found) : Grows a many found t y3 y4 B := by
  obtain ⟨u1, u2, u3, u4, u5⟩ := wd_ok ok
  rcases nextW_cases (wd_gw ok) (found := found) (by omega) with e | ⟨w', e, h1, h2⟩
  · exact absurd e hn
  · refine ⟨1, w', (wd t).2, .dat (sD (wordOf (wd t).1)), fun n => ?_, h1, h2, u1, by omega⟩
    have hb := wB_at (m := .int (many : Int)) (y3 := y3) (y4 := y4) ok b (by omega) hg
    rw [e] at hb
    exact wh_at (by rw [wC_at, decide_eq_true hm]) hb
theorem first_new {t : Drw} {r : List Int} (hf : ∀ w, w ∈ found → w.head? ≠ some (97 + l)) (h : (wd t).1 = (l : Int) :: r) : nextW found (wordOf (wd t).1) ≠ found := by
  have hn : wordOf (wd t).1 ∉ found := fun z => hf _ z (by
    rw [h]
    show some ((97 + (l : Int)).toNat) = some (97 + l)
    rw [show (97 + (l : Int)).toNat = 97 + l by omega])
  unfold nextW
  rw [if_pos hn]
  intro z
  have := congrArg List.length z
  rw [List.length_append] at this
  exact absurd this (by show found.length + 1 ≠ _; omega)
theorem grow_hit {t : Drw} {y3 y4 : Sl} {B : Int} (ok : Ok1 a t) (b : t.turn + 10 < TOP) (hm : found.length < many) (h6 : many ≤ 6) (hg : ∀ w, w ∈ found → gw w) (hB : t.turn + 9 ≤ B) (hf : ∀ w, w ∈ found → w.head? ≠ some (97 + l)) (hh : Hit l t) : Grows a many found t y3 y4 B := by
  obtain ⟨r, e⟩ := wd_hit hh
  exact grow_one ok b hm h6 hg hB (first_new hf e)
theorem grow_later {t t' : Drw} {y3 y3' y4 : Sl} {B : Int} (hm : found.length < many) (e : wB (wE a many found y3 y4) (some t) = .ok (.nx, wE a many found y3' y4) (some t')) (h : Grows a many found t' y3' y4 B) : Grows a many found t y3 y4 B := by
  obtain ⟨k, w', t2, y, h1, h2⟩ := h
  refine ⟨k + 1, w', t2, y, fun n => ?_, h2⟩
  rw [← h1 n, ← Nat.add_assoc]
  exact wh_at (by rw [wC_at, decide_eq_true hm]) e
theorem grow {B : Int} (hl : l < 7) (h1 : 1 ≤ l) (hm : found.length < many) (h6 : many ≤ 6) (hg : ∀ w, w ∈ found → gw w) (hf : ∀ w, w ∈ found → w.head? ≠ some (97 + l)) (hB : τ + 20 ≤ B) (hT : τ + 30 < TOP) :
    ∀ (t : Drw) (y3 y4 : Sl), Ok1 a t → t.turn < τ → blendV τ t.cells = numV l → Grows a many found t y3 y4 B
  | t, y3, y4, ok, ht, hv => by
    obtain ⟨u1, u2, u3, u4, u5⟩ := wd_ok ok
    by_cases hn : nextW found (wordOf (wd t).1) = found
    · have hb := wB_at (m := .int (many : Int)) (y3 := y3) (y4 := y4) ok (by omega) (found := found) (by omega) hg
      rw [hn] at hb
      refine grow_later hm hb ?_
      rcases wd_cases hl h1 ok ht hv with ⟨p1, p2⟩ | ⟨r, e⟩ | hh
      · have dec : Lt3 (wd t).2 t := p2
        exact grow hl h1 hm h6 hg hf hB hT (wd t).2 _ y4 u1 p1 (by rw [u5]; exact hv)
      · exact absurd hn (first_new hf e)
      · exact grow_hit u1 (by omega) hm h6 hg (by omega) hf hh
    · exact grow_one ok (by omega) hm h6 hg (by omega) hn
  termination_by t => ((τ - t.turn).toNat, t.great.length, t.rest.toNat)
  decreasing_by
    have h0 := ok.r0
    have h9 := u1.r0
    rcases dec with d | ⟨d1, d | ⟨d2, d3⟩⟩
    · exact Prod.Lex.left _ _ (by omega)
    · rw [d1]
      exact Prod.Lex.right _ (Prod.Lex.left _ _ d)
    · rw [d1, d2]
      exact Prod.Lex.right _ (Prod.Lex.right _ (by omega))
theorem pig : ∀ (M L : List Nat), M.Nodup → (∀ x, x ∈ M → x ∈ L) → M.length ≤ L.length
  | [], L, _, _ => Nat.zero_le _
  | x :: M, L, h, hs => by
    rw [List.nodup_cons] at h
    have hx := hs x (List.mem_cons_self ..)
    have ih := pig M (L.erase x) h.2 fun y hy => (List.mem_erase_of_ne (fun e => h.1 (by rw [← e]; exact hy))).mpr (hs y (List.mem_cons_of_mem _ hy))
    have := List.length_erase_of_mem hx
    have := List.length_pos_of_mem hx
    rw [List.length_cons]
    omega
/-- a letter that begins none of them -/
theorem free_letter (h : found.length ≤ 5) : ∃ l : Nat, 1 ≤ l ∧ l < 7 ∧ ∀ w, w ∈ found → w.head? ≠ some (97 + l) := by
  refine Classical.byContradiction fun hn => ?_
  have hs : ∀ x, x ∈ [1, 2, 3, 4, 5, 6] → x ∈ found.map fun w => w.head?.getD 0 - 97 := fun x hx => by
    refine Classical.byContradiction fun hx2 => hn ⟨x, ?_, ?_, fun w hw e => hx2 (List.mem_map.mpr ⟨w, hw, ?_⟩)⟩
    · simp at hx; omega
    · simp at hx; omega
    · rw [e]
      show 97 + x - 97 = x
      omega
  have := pig [1, 2, 3, 4, 5, 6] _ (by decide) hs
  rw [List.length_map] at this
  simp at this
  omega
theorem words_loop (h6 : many ≤ 6) : ∀ (d : Nat) (found : List (List Nat)) (t : Drw) (y3 y4 : Sl), many - found.length = d → found.length ≤ many → Ok1 a t → t.turn + d * (PP + 30) + 30 < TOP → (∀ w, w ∈ found → gw w) → found.Nodup →
    ∃ k found' t' y3', whN wC wB k (wE a many found y3 y4) (some t) = .ok (.nx, wE a many found' y3' y4) (some t') ∧ found'.length = many ∧ (∀ w, w ∈ found' → gw w) ∧ found'.Nodup ∧ Ok1 a t' ∧ t'.turn ≤ t.turn + d * (PP + 30)
  | 0, found, t, y3, y4, hd, hle, ok, b, hg, nd => by
    refine ⟨1, found, t, y3, ?_, by omega, hg, nd, ok, by omega⟩
    show whS wC wB (whN wC wB 0) _ _ = _
    unfold whS
    rw [wC_at, decide_eq_false (by omega)] <;> rfl
  | d + 1, found, t, y3, y4, hd, hle, ok, b, hg, nd => by
    obtain ⟨l, l1, l2, hf⟩ := free_letter (found := found) (by omega)
    obtain ⟨τ, t1, t2, hv⟩ := free_turn t.cells ok.cl t.turn (l - 1) (by omega)
    rw [show l - 1 + 1 = l by omega] at hv
    have hPP : (0 : Int) ≤ d * (PP + 30) := Int.mul_nonneg (by omega) (by unfold PP; decide)
    have hs : ((d + 1 : Nat) : Int) * (PP + 30) = d * (PP + 30) + (PP + 30) := by
      rw [Int.natCast_succ, Int.add_mul, Int.one_mul]
    rw [hs] at b ⊢
    obtain ⟨k, w', t', y', h1, h2, h3, h4, h5⟩ := grow (a := a) (many := many) (B := t.turn + PP + 30) l2 l1 (by omega) h6 hg hf (by omega) (by omega) t y3 y4 ok t1 hv
    obtain ⟨k2, f2, t3, y2, e1, e2, e3, e4, e5, e6⟩ := words_loop h6 d (found ++ [w']) t' y' y4 (by rw [List.length_append]; show many - (found.length + 1) = d; omega) (by rw [List.length_append]; show found.length + 1 ≤ many; omega) h4 (by omega) (fun w hw => by
      rcases List.mem_append.mp hw with hw | hw
      · exact hg w hw
      · rw [List.mem_singleton.mp hw]; exact h2) (by
      rw [List.nodup_append]
      exact ⟨nd, by simp, fun x hx y hy e => h3 (by rw [List.mem_singleton.mp hy] at e; rw [← e]; exact hx)⟩)
    exact ⟨k2 + k, f2, t3, y2, by rw [h1, e1], e2, e3, e4, e5, by omega⟩
end
end TP
end

-- text TpX
section
set_option maxHeartbeats 4000000
set_option autoImplicit false
namespace TP
open PySem PySem.Spec L2 TL
/-! ### words sorted -/
def leW (a b : List Nat) : Bool := !decide (b < a)
abbrev pW (w : List Nat) : PyData := .str (wS w)
theorem data_le (x y : D × PyData) (a b : List Nat) (hx : x.2 = pW a) (hy : y.2 = pW b) : PySem.W.dataLe false (·.2) x y = leW a b := by
  show (!(PyProof.Rows.lexLt PyProof.Rows.itemOrd (PySem.W.keyToks y.2) (PySem.W.keyToks x.2))) = _
  rw [hx, hy]
  show (!(PyProof.Rows.lexLt PyProof.Rows.itemOrd [.inr b] [.inr a])) = _
  rw [PyProof.Rows.lex_cons]
  show (!(decide (b < a) || (!decide (a < b) && false))) = _
  rw [Bool.and_false, Bool.or_false] <;> rfl
theorem okSort_words {l : List (List Nat)} (h : ∀ w, w ∈ l → gw w) : okSort (l.map pW) = true := by
  unfold okSort
  rw [Bool.and_eq_true, Bool.and_eq_true]
  refine ⟨⟨?_, ?_⟩, ?_⟩
  · unfold alikeB
    rw [List.all_eq_true]
    intro x hx
    rw [List.all_eq_true]
    intro y hy
    obtain ⟨a, _, rfl⟩ := List.mem_map.mp hx
    obtain ⟨b, _, rfl⟩ := List.mem_map.mp hy
    rfl
  · unfold sortB
    rw [Bool.or_eq_true]
    refine .inr (List.all_eq_true.mpr fun x hx => ?_)
    obtain ⟨a, _, rfl⟩ := List.mem_map.mp hx
    rfl
  · rw [List.all_eq_true]
    intro x hx
    obtain ⟨a, ha, rfl⟩ := List.mem_map.mp hx
    exact gw_okS (h a ha)
theorem toPyL_words (l : List (List Nat)) : toPyL (l.map sD) = some (l.map pW) := by
  rw [sD_map, strs_py, List.map_map] <;> rfl
theorem sort_val {l : List (List Nat)} (h : ∀ w, w ∈ l → gw w) : sortedD [.lst (l.map sD)] = pure (.lst ((l.mergeSort leW).map sD)) := by
  show (match toPyL (l.map sD) with
    | some ys => if okSort ys = true then (pure (.lst (srt (l.map sD) ys)) : Mo D) else Mo.fail
    | none => Mo.fail) = _
  rw [toPyL_words]
  show (if okSort (l.map pW) = true then (pure (.lst (srt (l.map sD) (l.map pW))) : Mo D) else Mo.fail) = _
  rw [if_pos (okSort_words h)]
  congr 2
  unfold srt
  have e : (l.map sD).zip (l.map pW) = l.map fun w => (sD w, pW w) := by
    rw [List.zip_map']
  rw [e, ← List.map_mergeSort (r := leW) (fun a _ b _ => (data_le _ _ a b rfl rfl).symm), List.map_map]
  rfl
theorem leW_trans (a b c : List Nat) (h1 : leW a b = true) (h2 : leW b c = true) : leW a c = true := by
  unfold leW at *
  simp only [Bool.not_eq_true', decide_eq_false_iff_not] at *
  exact fun h => h1 (List.lt_of_le_of_lt (List.not_lt.mp h2) h)
theorem leW_total (a b : List Nat) : (leW a b || leW b a) = true := by
  unfold leW
  by_cases c : b < a
  · have : ¬ a < b := fun z => List.lt_irrefl _ (List.lt_trans z c)
    simp [this]
  · simp [c]
theorem sorted_lt {l : List (List Nat)} (nd : l.Nodup) : (l.mergeSort leW).Pairwise (· < ·) := by
  have h1 := List.pairwise_mergeSort leW_trans leW_total l
  have h2 : (l.mergeSort leW).Nodup := (List.mergeSort_perm l leW).nodup_iff.mpr nd
  refine (h1.and h2).imp fun {a b} hh => ?_
  have h1 : ¬ b < a := by
    have : (!decide (b < a)) = true := hh.1
    simpa using this
  rcases List.le_iff_lt_or_eq.mp (List.not_lt.mp h1) with q | q
  · exact q
  · exact absurd q hh.2
theorem mk_nil : mkLst [] = (pure (.lst []) : Mo D) := rfl
/-- what is said of drawn words -/
structure Wds (k : Nat) (ws : List (List Nat)) : Prop where
  len : ws.length = k
  g : ∀ w, w ∈ ws → gw w
  lt : ws.Pairwise (· < ·)
abbrev wordsT : Nat := 2 ^ 100
theorem Tr.words {a : Addr} {k : Nat} (hk : k ≤ 6) : Tr a wordsT (f_law_words [.ptr a, .int (k : Int)]) fun d => ∃ ws, d = .lst (ws.map sD) ∧ Wds k ws := fun t ok b => by
  have hP : ((k - 0 : Nat) : Int) * (PP + 30) ≤ 6 * (PP + 30) := Int.mul_le_mul_of_nonneg_right (by omega) (by unfold PP; decide)
  have h6 : (6 : Int) * (PP + 30) + 30 ≤ (wordsT : Nat) := by unfold PP; decide
  obtain ⟨n, f, t', y3, h1, h2, h3, h4, h5, h7⟩ := words_loop (a := a) hk (k - 0) [] t .un .un rfl (Nat.zero_le _) ok (by omega) (fun w hw => absurd hw List.not_mem_nil) List.nodup_nil
  have hw : whD wC wB [.dat (.ptr a), .dat (.int (k : Int)), .dat (.lst []), .un, .un] (some t) = .ok (.nx, wE a k f y3 .un) (some t') := by
    have e : whD wC wB (wE a k [] .un .un) (some t) = .ok (.nx, wE a k f y3 .un) (some t') := by
      rw [whD_of (n := n) (by rw [h1]; exact fun z => by cases z), h1]
    exact e
  refine ⟨.lst ((f.mergeSort leW).map sD), t', ?_, h5, by omega, f.mergeSort leW, rfl, ⟨by rw [List.length_mergeSort, h2], fun w hw => h3 w ((List.mergeSort_perm f leW).mem_iff.mp hw), sorted_lt h4⟩⟩
  rw [c_words, u_runB]
  simp [u_seqM, envOf, mk_nil]
  rw [bind_at hw]
  simp [sort_val h3]
  rfl
end TP
end

-- text TpL
section
set_option maxHeartbeats 4000000
set_option autoImplicit false
namespace TP
open PySem PySem.Spec L2 TL
/-! ### drawn lines -/
def negV (v : List Rat) : List Rat := v.map fun q => -q
theorem negV_val (v : List Rat) : f_law_ph_turned [dV v] = pure (dV (negV v)) := by
  rw [c_law_ph_turned, u_runB]
  simp [u_seqM, envOf]
  rw [comp_map (e := dQ) (f := fun q => dQ (-q)) (fun q hq => by
    have e : (D.tup [D.int (-q.num), D.int (q.den : Int)]) = dQ (-q) := rfl
    simp [wipeE, e])]
  simp
  unfold negV
  have e : v.map (fun q => dQ (-q)) = (v.map fun q => -q).map dQ := by rw [List.map_map] <;> rfl
  rw [e] <;> rfl
theorem sm_neg {m : Nat} {q : Rat} (h : sm m q) : sm m (-q) := ⟨by show (-q.num).natAbs < _; rw [Int.natAbs_neg]; exact h.1, h.2⟩
theorem smV_neg {m : Nat} {v : List Rat} (h : smV m v) : smV m (negV v) := fun q hq => by
  obtain ⟨p, hp, rfl⟩ := List.mem_map.mp hq
  exact sm_neg (h p hp)
theorem smV_mono {m n : Nat} {v : List Rat} (h : smV m v) (hn : m ≤ n) : smV n v := fun q hq => sm_mono (h q hq) hn
theorem sm_one : sm 1 1 := ⟨by decide, by decide⟩
def lowV (v : List Rat) : List Rat := v.dropLast ++ [lastQ v - 1]
theorem lowV_sm {m : Nat} {v : List Rat} (h : smV m v) (hl : 1 ≤ v.length) : smV (m + 2) (lowV v) := fun q hq => by
  rcases List.mem_append.mp hq with hq | hq
  · exact sm_mono (smV_drop h q hq) (by omega)
  · rw [List.mem_singleton.mp hq]
    exact sm_sub (smV_last h hl) sm_one
theorem lowV_len {v : List Rat} (hl : 1 ≤ v.length) : (lowV v).length = v.length := by
  unfold lowV
  rw [List.length_append, List.length_dropLast]
  show v.length - 1 + 1 = _
  omega
theorem dQ_one : (.tup [.int 1, .int 1] : D) = dQ 1 := rfl
theorem good_dQ {m : Nat} {q : Rat} (h : sm m q) (hm : m ≤ 4000) : good (dQ q) = true := by
  have p : 2 ^ m ≤ 2 ^ 4000 := Nat.pow_le_pow_right (by decide) hm
  show (decide (q.num.natAbs < 2 ^ 4000) && (decide ((q.den : Int).natAbs < 2 ^ 4000) && true)) = true
  rw [decide_eq_true (Nat.lt_of_lt_of_le h.1 p), decide_eq_true (Nat.lt_of_lt_of_le (den_lt h) p)] <;> rfl
theorem good_dV {m : Nat} {v : List Rat} (h : smV m v) (hm : m ≤ 4000) : good (dV v) = true := goods_of fun d hd => by
  obtain ⟨q, hq, rfl⟩ := List.mem_map.mp hd
  exact good_dQ (h q hq) hm
theorem dep_dV (v : List Rat) : dep (dV v) ≤ 2 := by
  show deps (v.map dQ) + 1 ≤ 2
  have : deps (v.map dQ) ≤ 1 := deps_of fun d hd => by
    obtain ⟨q, hq, rfl⟩ := List.mem_map.mp hd
    exact Nat.le_refl _
  omega
theorem nl_dV (v : List Rat) : nl (dV v) = true := by
  show nlL (v.map dQ) = true
  induction v with
  | nil => rfl
  | cons q v ih =>
    show (nl (dQ q) && nlL (v.map dQ)) = true
    rw [ih] <;> rfl
theorem ne_vecs {m : Nat} {fs : List (List Rat)} (h : ∀ f, f ∈ fs → smV m f) (hm : m ≤ 4000) : cmF .NotEq (.lst (fs.map dV)) (.lst []) = pure (.bl (!fs.isEmpty)) := by
  have e := eqO_lnil (xs := fs.map dV) (goods_of fun d hd => by
    obtain ⟨f, hf, rfl⟩ := List.mem_map.mp hd
    exact good_dV (h f hf) hm) (deps_of fun d hd => by
    obtain ⟨f, hf, rfl⟩ := List.mem_map.mp hd
    exact Nat.le_trans (dep_dV f) (by decide))
  show Mo.of ((eqO _ _).map fun k => D.bl (!k)) = _
  rw [e, List.isEmpty_map] <;> rfl
structure Lns (d : Nat) (rows : List Row) : Prop where
  d1 : 1 ≤ d
  d3 : d ≤ 3
  l1 : 1 ≤ rows.length
  l6 : rows.length ≤ 6
  w : ∃ ws, rows.map (·.1) = ws.map wS ∧ Wds rows.length ws
  f : ∀ r, r ∈ rows → smV 60 r.2 ∧ r.2.length = d + 1
theorem Tr.seq {a : Addr} {n1 n2 : Nat} {b1 b2 : Ev → Mo (Fl × Ev)} {env : Ev} {P Q : Fl × Ev → Prop} (h : Tr a n1 (b1 env) P) (h2 : ∀ r, P r → r.1 = .nx ∧ Tr a n2 (b2 r.2) Q) : Tr a (n1 + n2) (seqM b1 b2 env) Q := by
  rw [u_seqM]
  refine Tr.bind h fun r p => ?_
  obtain ⟨e1, e2⟩ := h2 r p
  obtain ⟨fl, env'⟩ := r
  dsimp only at e1 e2
  subst e1
  exact e2
theorem Tr.seq_end {a : Addr} {n : Nat} {b1 : Ev → Mo (Fl × Ev)} {env : Ev} {P : Fl × Ev → Prop} (h : Tr a n (b1 env) P) (h2 : ∀ r, P r → r.1 = .nx) : Tr a n (seqM b1 sNx env) P :=
  Tr.seq (n2 := 0) h fun r p => ⟨h2 r p, Tr.pure (by
    have e := h2 r p
    obtain ⟨fl, env'⟩ := r
    dsimp only at e
    subst e
    exact p)⟩
section
variable {a : Addr} {dd : Nat} {s : Int} {W : D}
noncomputable def lB1 : Ev → Mo (Fl × Ev) := (sSet 6 (mlsE (eCons (callE (runN 3 f_law_vector) (eCons (eV 0) (eCons (eO addD (eV 1) (eC (.int 1))) (eCons (eV 4) eNil)))) (eCons (callE (runN 3 f_law_vector) (eCons (eV 0) (eCons (eO addD (eV 1) (eC (.int 1))) (eCons (eV 4) eNil)))) eNil))))
noncomputable def lB2 : Ev → Mo (Fl × Ev) := (iteM (bT (tstB (cmE .NotEq (eV 3) (mlsE eNil)))) (seqM (sSet 7 (bE (callE (runN 2 f_law_pick) (eCons (eV 0) (eCons (eV 3) eNil))))) (seqM (sSet 6 (eO addD (eV 6) (mlsE (eCons (eV 7) (eCons (eO addD (slE (eV 7) eN (eS (negE (eC (.int 1))))) (tupE (eCons (callE (runN 2 f_law_minus) (eCons (ixE (eV 7) (negE (eC (.int 1)))) (eCons (tupE (eCons (eC (.int 1)) (eCons (eC (.int 1)) eNil))) eNil))) eNil))) (eCons (callE (runN 1 f_law_ph_turned) (eCons (eV 7) eNil)) eNil)))))) sNx)) sNx)
noncomputable def lB3 : Ev → Mo (Fl × Ev) := (apE 3 (callE (runN 2 f_law_pick) (eCons (eV 0) (eCons (eV 6) eNil))))
def vecD (m l : Nat) (x : D) : Prop := ∃ v, x = dV v ∧ smV m v ∧ v.length = l
theorem lB1_ok {fs : List D} {y5 y6 y7 : Sl} (h3 : dd ≤ 3) (s1 : 1 ≤ s) (s2 : s < 2 ^ 40) : Tr a 80 (lB1 [.dat (.ptr a), .dat (.int (dd : Int)), .dat W, .cel fs, .dat (.int s), y5, y6, y7, .un]) fun r => r.1 = .nx ∧ ∃ L, r.2 = [.dat (.ptr a), .dat (.int (dd : Int)), .dat W, .cel fs, .dat (.int s), y5, .dat (.lst L), y7, .un] ∧ L.length = 2 ∧ ∀ x, x ∈ L → vecD 41 (dd + 1) x := by
  have ed : (dd : Int) + 1 = ((dd + 1 : Nat) : Int) := by omega
  unfold lB1
  simp
  rw [ed]
  refine (Tr.bind (n1 := 4 * 9) (n2 := 40) ((Tr.vector (by omega) s1 s2).mono (Nat.mul_le_mul_right 9 (by omega)) fun _ h => h) fun x ⟨v1, e, l1, z1⟩ => ?_).mono (by decide) fun _ h => h
  subst e
  refine (Tr.bind (n1 := 4 * 9) (n2 := 0) ((Tr.vector (by omega) s1 s2).mono (Nat.mul_le_mul_right 9 (by omega)) fun _ h => h) fun x ⟨v2, e, l2, z2⟩ => ?_).mono (by decide) fun _ h => h
  subst e
  rw [mkLst_ok (by simp), pb]
  refine Tr.pure ⟨rfl, _, rfl, rfl, fun x hx => ?_⟩
  simp only [List.mem_cons, List.not_mem_nil, or_false] at hx
  rcases hx with rfl | rfl
  · exact ⟨v1, rfl, z1, l1⟩
  · exact ⟨v2, rfl, z2, l2⟩
theorem vecD_mono {m n l : Nat} {x : D} (h : vecD m l x) (hn : m ≤ n) : vecD n l x := by
  obtain ⟨v, e, h1, h2⟩ := h
  exact ⟨v, e, smV_mono h1 hn, h2⟩
theorem lB2_ok {k : Nat} {fs : List (List Rat)} {L : List D} {y5 y7 : Sl} (h3 : dd ≤ 3) (k6 : k ≤ 5) (hk : fs.length = k) (hf : ∀ f, f ∈ fs → smV (41 + 2 * k) f ∧ f.length = dd + 1) (hL : L.length = 2) (hv : ∀ x, x ∈ L → vecD 41 (dd + 1) x) (h7 : okE y7) :
    Tr a 1 (lB2 [.dat (.ptr a), .dat (.int (dd : Int)), .dat W, .cel (fs.map dV), .dat (.int s), y5, .dat (.lst L), y7, .un]) fun r => r.1 = .nx ∧ ∃ L' y7', okE y7' ∧ r.2 = [.dat (.ptr a), .dat (.int (dd : Int)), .dat W, .cel (fs.map dV), .dat (.int s), y5, .dat (.lst L'), y7', .un] ∧ L' ≠ [] ∧ L'.length ≤ 5 ∧ ∀ x, x ∈ L' → vecD (41 + 2 * (k + 1)) (dd + 1) x := by
  have hfm : ∀ f, f ∈ fs → smV 60 f := fun f h => smV_mono (hf f h).1 (by omega)
  have hn : L ≠ [] := fun z => by rw [z] at hL; cases hL
  unfold lB2
  simp [u_seqM, mk_nil, ne_vecs hfm]
  cases fs with
  | nil =>
    simp
    exact Tr.pure ⟨rfl, L, y7, h7, rfl, hn, by omega, fun x hx => vecD_mono (hv x hx) (by omega)⟩
  | cons f0 fs =>
    simp
    refine Tr.bind (n1 := 1) (n2 := 0) (P := fun x => ∃ v, x = dV v ∧ smV (41 + 2 * k) v ∧ v.length = dd + 1) ?_ fun x ⟨v, e, z, l⟩ => ?_
    · unfold borrow
      refine Tr.bind (n1 := 1) (n2 := 0) (Tr.pick (xs := (f0 :: fs).map dV) (by simp) (by simp at hk ⊢; omega)) fun x hx => ?_
      obtain ⟨v, hv, rfl⟩ := List.mem_map.mp hx
      rw [if_pos (nl_dV v)]
      exact Tr.pure ⟨v, rfl, (hf v hv).1, (hf v hv).2⟩
    · subst e
      have l1 : 1 ≤ v.length := by omega
      have k1 := sl_dV l1
      have k2 := ix_last l1
      have k3 := lminus_val (smV_last z l1) sm_one (by omega) (by omega)
      have k4 := negV_val v
      have k5 : addD (dV v.dropLast) (.tup [dQ (lastQ v - 1)]) = pure (dV (lowV v)) := by
        show addD (.tup (v.dropLast.map dQ)) (.tup [dQ (lastQ v - 1)]) = _
        rw [add_tup (by rw [List.length_map, List.length_dropLast]; show v.length - 1 + 1 ≤ 1000; omega)]
        show (pure (D.tup (v.dropLast.map dQ ++ [dQ (lastQ v - 1)])) : Mo D) = pure (D.tup ((v.dropLast ++ [lastQ v - 1]).map dQ))
        rw [List.map_append] <;> rfl
      have k6 : mkLst [dV v, dV (lowV v), dV (negV v)] = pure (.lst [dV v, dV (lowV v), dV (negV v)]) := mkLst_ok (by simp)
      have k7 : addD (.lst L) (.lst [dV v, dV (lowV v), dV (negV v)]) = pure (.lst (L ++ [dV v, dV (lowV v), dV (negV v)])) := add_lst (by rw [hL]; simp)
      have k8 : intO (.int (-1)) = some (some (-1)) := rfl
      have k9 : mkTup [dQ (lastQ v - 1)] = pure (.tup [dQ (lastQ v - 1)]) := rfl
      simp only [k8, mo_some, pb]
      rw [k1, pb, k2, pb]
      rw [dQ_one, k3, pb]
      rw [k5, pb, k4, pb, k6, pb, k7, pb]
      refine Tr.pure ⟨rfl, _, .dat (dV v), .inr ⟨_, rfl⟩, rfl, by simp, by rw [List.length_append, hL]; simp, fun x hx => ?_⟩
      rcases List.mem_append.mp hx with hx | hx
      · exact vecD_mono (hv x hx) (by omega)
      · simp only [List.mem_cons, List.not_mem_nil, or_false] at hx
        rcases hx with rfl | rfl | rfl
        · exact ⟨v, rfl, smV_mono z (by omega), l⟩
        · exact ⟨lowV v, rfl, lowV_sm z l1, by rw [lowV_len l1, l]⟩
        · exact ⟨negV v, rfl, smV_mono (smV_neg z) (by omega), by unfold negV; rw [List.length_map, l]⟩
theorem lB3_ok {k : Nat} {fs : List (List Rat)} {L : List D} {y5 y7 : Sl} (k6 : k ≤ 5) (hk : fs.length = k) (hf : ∀ f, f ∈ fs → smV (41 + 2 * k) f ∧ f.length = dd + 1) (hL : L.length ≤ 5) (hn : L ≠ []) (hv : ∀ x, x ∈ L → vecD (41 + 2 * (k + 1)) (dd + 1) x) :
    Tr a 1 (lB3 [.dat (.ptr a), .dat (.int (dd : Int)), .dat W, .cel (fs.map dV), .dat (.int s), y5, .dat (.lst L), y7, .un]) fun r => r.1 = .nx ∧ ∃ fs' : List (List Rat), r.2 = [.dat (.ptr a), .dat (.int (dd : Int)), .dat W, .cel (fs'.map dV), .dat (.int s), y5, .dat (.lst L), y7, .un] ∧ fs'.length = k + 1 ∧ ∀ f, f ∈ fs' → smV (41 + 2 * (k + 1)) f ∧ f.length = dd + 1 := by
  unfold lB3
  simp
  refine Tr.bind (n1 := 1) (n2 := 0) (Tr.pick hn (by omega)) fun x hx => ?_
  obtain ⟨v, rfl, z, l⟩ := hv x hx
  rw [if_pos (by show fs.length ≤ 1000000; omega)]
  refine Tr.pure ⟨rfl, fs ++ [v], by rw [List.map_append] <;> rfl, by rw [List.length_append, hk] <;> rfl, fun f h => ?_⟩
  rcases List.mem_append.mp h with h | h
  · exact ⟨smV_mono (hf f h).1 (by omega), (hf f h).2⟩
  · rw [List.mem_singleton.mp h]
    exact ⟨z, l⟩
end
theorem zip_rows : ∀ (ws : List (List Nat)) (fs : List (List Rat)), pairs (ws.map sD) (fs.map dV) = ((ws.map wS).zip fs).map dRow := by
  intro ws fs
  rw [pairs_map, List.zip_map_left, List.map_map]
  rfl
theorem tr_lines {a : Addr} : Tr a (2 ^ 102) (f_law_lines [.ptr a]) fun x => ∃ d rows, x = dLn rows ∧ Lns d rows := by
  have hB : (seqM (sSet 6 (mlsE (eCons (callE (runN 3 f_law_vector) (eCons (eV 0) (eCons (eO addD (eV 1) (eC (.int 1))) (eCons (eV 4) eNil)))) (eCons (callE (runN 3 f_law_vector) (eCons (eV 0) (eCons (eO addD (eV 1) (eC (.int 1))) (eCons (eV 4) eNil)))) eNil)))) (seqM (iteM (bT (tstB (cmE .NotEq (eV 3) (mlsE eNil)))) (seqM (sSet 7 (bE (callE (runN 2 f_law_pick) (eCons (eV 0) (eCons (eV 3) eNil))))) (seqM (sSet 6 (eO addD (eV 6) (mlsE (eCons (eV 7) (eCons (eO addD (slE (eV 7) eN (eS (negE (eC (.int 1))))) (tupE (eCons (callE (runN 2 f_law_minus) (eCons (ixE (eV 7) (negE (eC (.int 1)))) (eCons (tupE (eCons (eC (.int 1)) (eCons (eC (.int 1)) eNil))) eNil))) eNil))) (eCons (callE (runN 1 f_law_ph_turned) (eCons (eV 7) eNil)) eNil)))))) sNx)) sNx) (seqM (apE 3 (callE (runN 2 f_law_pick) (eCons (eV 0) (eCons (eV 6) eNil)))) sNx))) = seqM lB1 (seqM lB2 (seqM lB3 sNx)) := rfl
  rw [c_law_lines, u_runB, hB]
  simp [u_seqM, envOf]
  refine (Tr.bind (n1 := 1) (n2 := 2 ^ 101) (Tr.draw (by decide) (by decide)) fun x ⟨i, e, i0, i1⟩ => ?_).mono (by decide) fun _ h => h
  subst e
  rw [add_ii, pb]
  refine (Tr.bind (n1 := 1) (n2 := 2 ^ 100 + 2 ^ 99) (Tr.draw (by decide) (by decide)) fun x ⟨j, e, j0, j1⟩ => ?_).mono (by decide) fun _ h => h
  subst e
  rw [add_ii, pb]
  have ej : (1 : Int) + j = ((j.toNat + 1 : Nat) : Int) := by omega
  obtain ⟨dd, ei, d1, d3⟩ : ∃ dd : Nat, (1 : Int) + i = (dd : Int) ∧ 1 ≤ dd ∧ dd ≤ 3 := ⟨i.toNat + 1, by omega, by omega, by omega⟩
  rw [ej, ei]
  clear ei
  refine Tr.bind (n1 := 2 ^ 100) (n2 := 2 ^ 99) (Tr.words (by omega)) fun x ⟨ws, e, hw⟩ => ?_
  subst e
  have ep : powD (.int 10) (.int 6) = (pure (D.int 1000000) : Mo D) := rfl
  rw [ep, pb, mkLst_ok (by simp), pb]
  refine (Tr.bind (n1 := 1) (n2 := 2 ^ 98) (Tr.pick (by simp) (by simp)) fun x hx => ?_).mono (by decide) fun _ h => h
  have hs : ∃ s : Int, x = .int s ∧ 1 ≤ s ∧ s < 2 ^ 40 := by
    simp only [List.mem_cons, List.not_mem_nil, or_false] at hx
    rcases hx with rfl | rfl | rfl | rfl
    · exact ⟨1, rfl, by decide, by decide⟩
    · exact ⟨2, rfl, by decide, by decide⟩
    · exact ⟨9, rfl, by decide, by decide⟩
    · exact ⟨1000000, rfl, by decide, by decide⟩
  obtain ⟨s, rfl, s1, s2⟩ := hs
  rw [it_lst, pb]
  have lw : (ws.map sD).length ≤ 6 := by rw [List.length_map, hw.len]; omega
  refine (Tr.bind (n1 := 6 * 100) (n2 := 0) ((Tr.for_ (n := 100) (I := fun k env => ∃ (fs : List (List Rat)) (y5 y6 y7 : Sl), okE y5 ∧ okE y6 ∧ okE y7 ∧ env = [.dat (.ptr a), .dat (.int (dd : Int)), .dat (.lst (ws.map sD)), .cel (fs.map dV), .dat (.int s), y5, y6, y7, .un] ∧ fs.length = k ∧ ∀ f, f ∈ fs → smV (41 + 2 * k) f ∧ f.length = dd + 1) (fun k d env hd hi => ?_) _ ?_).mono (Nat.mul_le_mul_right 100 lw) fun _ h => h) fun r hr => ?_).mono (by decide) fun _ h => h
  · obtain ⟨fs, y5, y6, y7, h5, h6, h7, rfl, hk, hf⟩ := hi
    have kk : k < (ws.map sD).length := (List.getElem?_eq_some_iff.mp hd).1
    refine ⟨[.dat (.ptr a), .dat (.int (dd : Int)), .dat (.lst (ws.map sD)), .cel (fs.map dV), .dat (.int s), .dat d, y6, y7, .un], rfl, ?_⟩
    refine Tr.seq (n1 := 80) (n2 := 20) (lB1_ok (W := .lst (ws.map sD)) (y5 := .dat d) (y6 := y6) (y7 := y7) (fs := fs.map dV) d3 s1 s2) fun r ⟨r1, L, e, l2, hL⟩ => ⟨r1, ?_⟩
    rw [e]
    refine Tr.seq (n1 := 1) (n2 := 19) (lB2_ok (y5 := .dat d) (y7 := y7) d3 (by omega) hk hf l2 hL h7) fun r ⟨r1, L', y7', o7, e, l2, l3, hL'⟩ => ⟨r1, ?_⟩
    rw [e]
    refine (Tr.seq_end (lB3_ok (y5 := .dat d) (y7 := y7') (by omega) hk hf l3 l2 hL') fun r hr => hr.1).mono (by decide) fun r hr => ?_
    obtain ⟨r1, fs', e, e2, e3⟩ := hr
    exact ⟨r1, fs', .dat d, _, y7', .inr ⟨_, rfl⟩, .inr ⟨_, rfl⟩, o7, e, e2, e3⟩
  · exact ⟨[], .un, .un, .un, .inl rfl, .inl rfl, .inl rfl, rfl, rfl, fun f hf => absurd hf List.not_mem_nil⟩
  · obtain ⟨hr1, fs, y5, y6, y7, h5, h6, h7, e, hk, hf⟩ := hr
    obtain ⟨fl, env⟩ := r
    dsimp only at hr1 e
    subst hr1 e
    rw [List.length_map] at hk hf
    have hz : ((ws.map wS).zip fs).length = ws.length := by rw [List.length_zip, List.length_map, hk, Nat.min_self]
    have hc : ∀ env', okE y5 → okE y6 → okE y7 → env' = wipeE (frzE [.dat (.ptr a), .dat (.int (dd : Int)), .dat (.lst (ws.map sD)), .cel (fs.map dV), .dat (.int s), y5, y6, y7, .un]) [5, 8] → compGo (compOne (asgT 2 (asgCons (asgN 5) (asgCons (asgN 8) asgNil))) tYes (tupE (eCons (eV 5) (eCons (eV 8) eNil))) env') (((ws.map wS).zip fs).map dRow) = pure (((ws.map wS).zip fs).map dRow) := by
      intro env' h5 h6 h7 e
      subst e
      refine comp_map fun r hr => ?_
      rcases h5 with rfl | ⟨d5, rfl⟩ <;> rcases h6 with rfl | ⟨d6, rfl⟩ <;> rcases h7 with rfl | ⟨d7, rfl⟩ <;> simp [wipeE]
    simp [-List.map_map]
    rw [zip_rows]
    rw [hc _ h5 h6 h7 (by simp), pb]
    have hm : ((ws.map wS).zip fs).map (·.1) = ws.map wS := by rw [List.map_fst_zip (by rw [List.length_map, hk]; exact Nat.le_refl _)]
    refine Tr.pure ⟨dd, (ws.map wS).zip fs, rfl, d1, d3, by rw [hz, hw.len]; omega, by rw [hz, hw.len]; omega, ⟨ws, hm, by rw [hz, hw.len]; exact hw⟩, fun r hr => ?_⟩
    have := List.of_mem_zip hr
    exact ⟨smV_mono (hf _ this.2).1 (by have := hw.len; omega), (hf _ this.2).2⟩
end TP
end

-- text TpM
section
set_option maxHeartbeats 4000000
set_option autoImplicit false
namespace TP
open PySem PySem.Spec L2 TL
/-! ### facts of drawn lines -/
mutual
theorem plain_nice : ∀ d, plainD d = true → nice d = true
  | .int _, h => h
  | .str _, h => h
  | .tup xs, h => plains_nice xs h
theorem plains_nice : ∀ xs, plainDs xs = true → nices xs = true
  | [], _ => rfl
  | x :: xs, h => by
    have h : (plainD x && plainDs xs) = true := h
    rw [Bool.and_eq_true] at h
    show (nice x && nices xs) = true
    rw [plain_nice x h.1, plains_nice xs h.2] <;> rfl
end
theorem nices_of {xs : List D} (h : ∀ x, x ∈ xs → nice x = true) : nices xs = true := by
  induction xs with
  | nil => rfl
  | cons x xs ih =>
    show (nice x && nices xs) = true
    rw [h x (List.mem_cons_self ..), ih (fun y hy => h y (List.mem_cons_of_mem _ hy))] <;> rfl
theorem plain_dQ {m : Nat} {q : Rat} (h : sm m q) (hm : m ≤ 4000) : plainD (dQ q) = true := by
  have p : 2 ^ m ≤ 2 ^ 4000 := Nat.pow_le_pow_right (by decide) hm
  show (decide (q.num.natAbs < 2 ^ 4000) && (decide ((q.den : Int).natAbs < 2 ^ 4000) && true)) = true
  rw [decide_eq_true (Nat.lt_of_lt_of_le h.1 p), decide_eq_true (Nat.lt_of_lt_of_le (den_lt h) p)] <;> rfl
theorem plain_dV {m : Nat} {v : List Rat} (h : smV m v) (hm : m ≤ 4000) : plainD (dV v) = true := plainDs_of fun d hd => by
  obtain ⟨q, hq, rfl⟩ := List.mem_map.mp hd
  exact plain_dQ (h q hq) hm
theorem plain_S {w : List Nat} (h : gw w) : plainD (sD w) = true := by
  show (SeqAt.shaped (.str (wS w)) && decide ((wS w).length ≤ 1000)) = true
  rw [show SeqAt.shaped (.str (wS w)) = true from gw_okS h, wS_len, decide_eq_true (Nat.le_trans h.2.1 (by decide))] <;> rfl
theorem isRat_dQ (q : Rat) : isRat (dQ q) = true := by
  show (decide ((0 : Int) < (q.den : Int)) && decide (Nat.gcd q.num.natAbs (q.den : Int).natAbs = 1)) = true
  rw [decide_eq_true (by have := q.den_pos; omega), decide_eq_true (by rw [Int.natAbs_natCast]; exact q.reduced)] <;> rfl
theorem isRat_dV (v : List Rat) : (v.map dQ).all isRat = true := by
  rw [List.all_map]
  exact List.all_eq_true.mpr fun q _ => isRat_dQ q
theorem isVec_dV {v : List Rat} (h1 : 1 ≤ v.length) (h2 : v.length ≤ 200) : isVec (dV v) = true := by
  show ((decide (1 ≤ (v.map dQ).length) && decide ((v.map dQ).length ≤ 200)) && (v.map dQ).all isRat) = true
  rw [isRat_dV, List.length_map, decide_eq_true h1, decide_eq_true h2] <;> rfl
theorem isWd_S {w : List Nat} (h : gw w) : isWd (sD w) = true := by
  show ((decide (1 ≤ (wS w).length) && decide ((wS w).length ≤ 8)) && (wS w).cps.toList.all isLet) = true
  have hl : ∀ c, 97 ≤ c → c ≤ 122 → isLet c = true := by
    have e : letters.cps.toList = (List.range 26).map fun i => 97 + i := by decide +kernel
    intro c h1 h2
    unfold isLet
    rw [e]
    exact decide_eq_true (List.mem_map.mpr ⟨c - 97, List.mem_range.mpr (by omega), by omega⟩)
  rw [wS_len, decide_eq_true h.1, decide_eq_true h.2.1]
  show (true && List.all _ _) = true
  rw [Bool.true_and, List.all_eq_true]
  intro c hc
  have hc : c ∈ w := by
    have : (wS w).cps.toList = w := by
      show w.toArray.toList = w
      simp
    rwa [this] at hc
  exact hl c (h.2.2 c hc).1 (h.2.2 c hc).2
theorem okS_lines_ : plainD (.str "lines") = true := by decide +kernel
section
variable {d : Nat} {rows : List Row}
theorem Lns.word (h : Lns d rows) {r : Row} (hr : r ∈ rows) : ∃ w, r.1 = wS w ∧ gw w := by
  obtain ⟨ws, e, hw⟩ := h.w
  have : r.1 ∈ ws.map wS := by
    rw [← e]
    exact List.mem_map.mpr ⟨r, hr, rfl⟩
  obtain ⟨w, hm, e2⟩ := List.mem_map.mp this
  exact ⟨w, e2.symm, hw.g w hm⟩
theorem Lns.plain_row (h : Lns d rows) {r : Row} (hr : r ∈ rows) : plainD (dRow r) = true := by
  obtain ⟨w, e, g⟩ := h.word hr
  show (plainD (.str r.1) && (plainD (dV r.2) && true)) = true
  rw [e, plain_S g, plain_dV (h.f r hr).1 (by decide)] <;> rfl
theorem Lns.plain_rows (h : Lns d rows) : plainD (dRows rows) = true := plainDs_of fun x hx => by
  obtain ⟨r, hr, rfl⟩ := List.mem_map.mp hx
  exact h.plain_row hr
theorem Lns.plain (h : Lns d rows) : plainD (dLn rows) = true := by
  show (plainD (.str "lines") && (plainD (dRows rows) && true)) = true
  rw [okS_lines_, h.plain_rows] <;> rfl
theorem Lns.nice (h : Lns d rows) : nice (dLn rows) = true := plain_nice _ h.plain
theorem Lns.ne (h : Lns d rows) : rows ≠ [] := fun z => by
  have := h.l1
  rw [z] at this
  cases this
theorem Lns.isLine (h : Lns d rows) {r : Row} (hr : r ∈ rows) : isLine (dRow r) = true := by
  obtain ⟨w, e, g⟩ := h.word hr
  have l := (h.f r hr).2
  have := h.d1
  have := h.d3
  show ((isWd (.str r.1) && isVec (dV r.2)) && (decide (2 ≤ (r.2.map dQ).length) && decide ((r.2.map dQ).length ≤ 4))) = true
  rw [e, isWd_S g, isVec_dV (by omega) (by omega), List.length_map, decide_eq_true (show 2 ≤ r.2.length by omega), decide_eq_true (show r.2.length ≤ 4 by omega)] <;> rfl
theorem Lns.vlen (h : Lns d rows) {r : Row} (hr : r ∈ rows) : vlen (dRow r) = d + 1 := by
  show (r.2.map dQ).length = _
  rw [List.length_map, (h.f r hr).2]
theorem Lns.isLn (h : Lns d rows) : isLn (dLn rows) = true := by
  obtain ⟨ws, e, hw⟩ := h.w
  show (decide (("lines" : Str) = "lines") && isRows (rows.map dRow)) = true
  rw [decide_eq_true rfl, Bool.true_and]
  unfold isRows
  have h1 := h.l1
  have h6 := h.l6
  rw [Bool.and_eq_true, Bool.and_eq_true, Bool.and_eq_true, Bool.and_eq_true]
  refine ⟨⟨⟨⟨by rw [List.length_map]; exact decide_eq_true h1, by rw [List.length_map]; exact decide_eq_true h6⟩, ?_⟩, ?_⟩, ?_⟩
  · rw [List.all_map]
    exact List.all_eq_true.mpr fun r hr => h.isLine hr
  · rw [List.all_map]
    refine List.all_eq_true.mpr fun r hr => ?_
    cases rows with
    | nil => cases h1
    | cons r0 rest =>
      have e0 := h.vlen (List.mem_cons_self ..)
      have e1 := h.vlen hr
      show decide (TP.vlen (dRow r) = TP.vlen (dRow r0)) = true
      rw [e0, e1]
      exact decide_eq_true rfl
  · unfold asc
    rw [List.length_map]
    refine List.all_eq_true.mpr fun i hi => ?_
    have hi := List.mem_range.mp hi
    have i1 : i < rows.length := by omega
    have i2 : i + 1 < rows.length := by omega
    unfold ascAt
    rw [List.getElem?_map, List.getElem?_map, List.getElem?_eq_getElem i1, List.getElem?_eq_getElem i2]
    show decide ((rows[i].1).cps.toList < (rows[i + 1].1).cps.toList) = true
    have hl : ws.length = rows.length := hw.len
    have f : ∀ (j : Nat) (hj : j < rows.length), (rows[j].1).cps.toList = ws[j] := fun j hj => by
      have : (rows.map (·.1))[j]? = (ws.map wS)[j]? := by rw [e]
      rw [List.getElem?_map, List.getElem?_map, List.getElem?_eq_getElem hj, List.getElem?_eq_getElem (by omega)] at this
      have := Option.some.inj this
      dsimp only at this
      rw [this]
      show (ws[j]).toArray.toList = _
      simp
    rw [f i i1, f (i + 1) i2]
    exact decide_eq_true (List.pairwise_iff_getElem.mp hw.lt i (i + 1) (by omega) (by omega) (by omega))
theorem Lns.uniq (h : Lns d rows) : Uniq rows := by
  obtain ⟨ws, e, hw⟩ := h.w
  intro r r' hr hr' er
  obtain ⟨i, hi, rfl⟩ := List.mem_iff_getElem.mp hr
  obtain ⟨j, hj, rfl⟩ := List.mem_iff_getElem.mp hr'
  have hl : ws.length = rows.length := hw.len
  have f : ∀ (j : Nat) (hj : j < rows.length), rows[j].1 = wS ws[j] := fun j hj => by
    have : (rows.map (·.1))[j]? = (ws.map wS)[j]? := by rw [e]
    rw [List.getElem?_map, List.getElem?_map, List.getElem?_eq_getElem hj, List.getElem?_eq_getElem (by omega)] at this
    exact Option.some.inj this
  rw [f i hi, f j hj] at er
  have er := wS_inj er
  have lt := List.pairwise_iff_getElem.mp hw.lt
  rcases Nat.lt_trichotomy i j with c | c | c
  · have := lt i j (by omega) (by omega) c
    rw [er] at this
    exact absurd this (List.lt_irrefl _)
  · subst c; rfl
  · have := lt j i (by omega) (by omega) c
    rw [er] at this
    exact absurd this (List.lt_irrefl _)
theorem Lns.rw_ (h : Lns d rows) : Rw 60 rows where
  f r hr := ⟨(h.f r hr).1, by rw [(h.f r hr).2]; omega⟩
  w r hr := by
    obtain ⟨w, e, g⟩ := h.word hr
    rw [e]
    exact gw_okS g
  m := by decide
  len := Nat.le_trans h.l6 (by decide)
end
end TP
end

-- text TpN
section
set_option maxHeartbeats 4000000
set_option autoImplicit false
namespace TP
open PySem PySem.Spec L2 TL
/-! ### alike: whole -/
theorem plainDs_app {xs ys : List D} (h1 : plainDs xs = true) (h2 : plainDs ys = true) : plainDs (xs ++ ys) = true := plainDs_of fun x hx => by
  rcases List.mem_append.mp hx with hx | hx
  · exact plainDs_all h1 x hx
  · exact plainDs_all h2 x hx
theorem deps_all {k : Nat} : ∀ {xs : List D}, deps xs ≤ k → ∀ x, x ∈ xs → dep x ≤ k
  | x :: xs, h, y, hy => by
    have h : max (dep x) (deps xs) ≤ k := h
    rcases List.mem_cons.mp hy with rfl | hy
    · omega
    · exact deps_all (xs := xs) (by omega) y hy
theorem same_loop : ∀ (n : Nat) (xs : List D) (a b : D) (y3 y4 y5 y6 y7 y8 : Sl), szs xs ≤ n → szs xs ≤ 900 → plainDs xs = true → (∀ x, x ∈ xs → dep x ≤ 50) → okE y5 → okE y7 → okE y8 →
    ∃ k env', whN sameC sameB k [.dat a, .dat b, .cel (xs.map twin), y3, y4, y5, y6, y7, y8] = pure (.nx, env')
  | n, xs, a, b, y3, y4, y5, y6, y7, y8, hn, h9, hp, hd, h5, h7, h8 => by
    rcases List.eq_nil_or_concat xs with rfl | ⟨init, x, rfl⟩
    · exact ⟨1, _, wh_stop same_stop⟩
    · rw [List.concat_eq_append] at *
      have go := same_go (a := a) (b := b) (y3 := y3) (y4 := y4) (y5 := y5) (y6 := y6) (y7 := y7) (y8 := y8) (xs := init ++ [x]) (by simp) hp hd
      have e1 := szs_app init [x]
      have e2 : szs [x] = sz x := rfl
      have p1 : plainDs init = true := plainDs_of fun y hy => plainDs_all hp y (List.mem_append_left _ hy)
      have px : plainD x = true := plainDs_all hp x (List.mem_append_right _ (List.mem_singleton.mpr rfl))
      have d1 : ∀ y, y ∈ init → dep y ≤ 50 := fun y hy => hd y (List.mem_append_left _ hy)
      have dx : dep x ≤ 50 := hd x (List.mem_append_right _ (List.mem_singleton.mpr rfl))
      cases n with
      | zero =>
        have : 1 ≤ sz x := by cases x <;> first | exact Nat.le_refl _ | exact Nat.succ_le_succ (Nat.zero_le _)
        omega
      | succ n =>
        cases x with
        | int i =>
          have e3 : sz (.int i) = 1 := rfl
          obtain ⟨k, env', e⟩ := same_loop n init a b (.dat (.int i)) (.dat (.int i)) y5 y6 y7 y8 (by omega) (by omega) p1 d1 h5 h7 h8
          exact ⟨k + 1, env', by rw [wh_step go same_int, e]⟩
        | str s =>
          have e3 : sz (.str s) = 1 := rfl
          have px : (SeqAt.shaped (.str s) && decide (s.length ≤ 1000)) = true := px
          rw [Bool.and_eq_true] at px
          obtain ⟨k, env', e⟩ := same_loop n init a b (.dat (.str s)) (.dat (.str s)) y5 y6 y7 y8 (by omega) (by omega) p1 d1 h5 h7 h8
          exact ⟨k + 1, env', by rw [wh_step go (same_str px.1), e]⟩
        | tup ys =>
          have e3 : sz (.tup ys) = szs ys + 1 := rfl
          have e4 := szs_app init ys
          have l1 := szs_len init
          have l2 := szs_len ys
          have dy : deps ys + 1 ≤ 50 := dx
          obtain ⟨k, env', e⟩ := same_loop n (init ++ ys) a b (.dat (.tup ys)) (.dat (.tup ys)) y5 (.dat (.lst [.bl true, .bl false])) y7 y8 (by omega) (by omega) (plainDs_app p1 px) (fun y hy => by
            rcases List.mem_append.mp hy with hy | hy
            · exact d1 y hy
            · exact deps_all (by omega) y hy) h5 h7 h8
          exact ⟨k + 1, env', by rw [wh_step go (same_tup h5 h7 h8 (by omega)), e]⟩
        | _ => exact absurd px Bool.false_ne_true
theorem same_val {x : D} (h : plainD x = true) (hd : dep x ≤ 50) (hz : sz x ≤ 900) : f_law_same [x, x] = pure (.bl true) := by
  have hw : c_law_same = c_law_same := rfl
  obtain ⟨k, env', e⟩ := same_loop (szs [x]) [x] x x .un .un .un .un .un .un (Nat.le_refl _) hz (by show (plainD x && true) = true; rw [h] <;> rfl) (fun y hy => by rw [List.mem_singleton.mp hy]; exact hd) (.inl rfl) (.inl rfl) (.inl rfl)
  have hw := wh_pure e
  have hB : f_law_same = runB (seqM (sNew 2 (nLst (eCons (tupE (eCons (eV 0) (eCons (eV 1) eNil))) eNil))) (seqM (whD sameC sameB) (seqM (sRt (eC (.bl true))) sNx))) 9 := c_law_same
  rw [hB, u_runB]
  have hl : (1 : Nat) ≤ lim := by decide
  have hw' : whD sameC sameB [.dat x, .dat x, .cel [.tup [x, x]], .un, .un, .un, .un, .un, .un] = pure (.nx, env') := hw
  simp [u_seqM, envOf, hl, hw']
end TP
end

-- text TpB
section
set_option maxHeartbeats 4000000
set_option autoImplicit false
noncomputable section
namespace TP
open PySem PySem.Spec L2 TL
/-! ### values put otherwise -/
mutual
/-- small ints, texts, tuples of few -/
def tiny : D → Bool
  | .int i => decide (i.natAbs < 2 ^ 60)
  | .str x => SeqAt.shaped (.str x) && decide (x.length ≤ 1000)
  | .tup xs => decide (xs.length ≤ 400) && tinys xs
  | _ => false
def tinys : List D → Bool
  | [] => true
  | x :: xs => tiny x && tinys xs
end
theorem tinys_all : ∀ {xs : List D}, tinys xs = true → ∀ x, x ∈ xs → tiny x = true
  | x :: xs, h, y, hy => by
    have h : (tiny x && tinys xs) = true := h
    rw [Bool.and_eq_true] at h
    rcases List.mem_cons.mp hy with rfl | hy
    · exact h.1
    · exact tinys_all h.2 y hy
theorem tinys_of {xs : List D} (h : ∀ x, x ∈ xs → tiny x = true) : tinys xs = true := by
  induction xs with
  | nil => rfl
  | cons x xs ih =>
    show (tiny x && tinys xs) = true
    rw [h x (List.mem_cons_self ..), ih (fun y hy => h y (List.mem_cons_of_mem _ hy))] <;> rfl
mutual
theorem tiny_plain : ∀ d, tiny d = true → plainD d = true
  | .int i, h => decide_eq_true (Nat.lt_of_lt_of_le (of_decide_eq_true (show decide (i.natAbs < 2 ^ 60) = true from h)) (Nat.pow_le_pow_right (by decide) (by decide)))
  | .str _, h => h
  | .tup xs, h => by
    have h : (decide (xs.length ≤ 400) && tinys xs) = true := h
    rw [Bool.and_eq_true] at h
    exact tinys_plain xs h.2
theorem tinys_plain : ∀ xs, tinys xs = true → plainDs xs = true
  | [], _ => rfl
  | x :: xs, h => by
    have h : (tiny x && tinys xs) = true := h
    rw [Bool.and_eq_true] at h
    show (plainD x && plainDs xs) = true
    rw [tiny_plain x h.1, tinys_plain xs h.2] <;> rfl
end
theorem tiny_nice {d : D} (h : tiny d = true) : nice d = true := plain_nice d (tiny_plain d h)
theorem isRat_some {d : D} (h : isRat d = true) (ht : tiny d = true) : ∃ q, d = dQ q ∧ sm 60 q := by
  match d, h with
  | .tup [.int n, .int k], h =>
    have h : (decide (0 < k) && decide (Nat.gcd n.natAbs k.natAbs = 1)) = true := h
    rw [Bool.and_eq_true, decide_eq_true_eq, decide_eq_true_eq] at h
    have ht : (decide ([D.int n, D.int k].length ≤ 400) && (decide (n.natAbs < 2 ^ 60) && (decide (k.natAbs < 2 ^ 60) && true))) = true := ht
    simp only [Bool.and_eq_true, decide_eq_true_eq] at ht
    have e := (low_iff n k h.1).mpr h.2
    refine ⟨Rat.divInt n k, ?_, sm_divInt (by omega) ht.2.1 ht.2.2.1⟩
    show _ = D.tup [D.int _, D.int _]
    rw [e.1, e.2]
theorem mem_cutG {α : Type} {xs : List α} {lo hi : Option Int} {x : α} (h : x ∈ cutG xs lo hi) : x ∈ xs := List.mem_of_mem_drop (List.mem_of_mem_take h)
theorem nices_sub {xs ys : List D} (h : nices xs = true) (hs : ∀ y, y ∈ ys → y ∈ xs) : nices ys = true := nices_of fun y hy => nices_all h y (hs y hy)
def bB1 : Ev → Mo (Fl × Ev) := (sSet 2 (mlsE (eCons (eC .non) (eCons (eC (.bl true)) (eCons (eC (.int 0)) (eCons (tupE eNil) (eCons (mlsE eNil) (eCons (eC (.str "some")) (eCons (tupE (eCons (eC (.int 0)) (eCons (eC (.int 1)) eNil))) (eCons (tupE (eCons (eC (.int 1)) (eCons (eC (.int 1)) eNil))) (eCons (tupE (eCons (negE (eC (.int 1))) (eCons (eC (.int 1)) eNil))) (eCons (tupE (eCons (eC (.int 2)) (eCons (eC (.int 4)) eNil))) (eCons (tupE (eCons (eC (.bl true)) (eCons (eC (.int 1)) eNil))) (eCons (tupE (eCons (eC (.int 1)) (eCons (eC (.int 0)) eNil))) (eCons (tupE (eCons (tupE (eCons (eC (.int 0)) (eCons (eC (.int 1)) eNil))) eNil)) eNil)))))))))))))))
def bB2 : Ev → Mo (Fl × Ev) := (iteM (truT (callE (runN 1 f_law_ph_is_ratio) (eCons (eV 1) eNil))) (seqM (sSet 2 (eO addD (eV 2) (mlsE (eCons (callE (runN 2 f_law_plus) (eCons (eV 1) (eCons (tupE (eCons (eC (.int 1)) (eCons (eC (.int 1)) eNil))) eNil))) (eCons (callE (runN 2 f_law_minus) (eCons (eV 1) (eCons (tupE (eCons (eC (.int 1)) (eCons (eC (.int 7)) eNil))) eNil))) (eCons (tupE (eCons (eO subD (eC (.int 0)) (ixE (eV 1) (eC (.int 0)))) (eCons (ixE (eV 1) (eC (.int 1))) eNil))) (eCons (tupE (eCons (eO multD (eC (.int 2)) (ixE (eV 1) (eC (.int 0)))) (eCons (eO multD (eC (.int 2)) (ixE (eV 1) (eC (.int 1)))) eNil))) eNil))))))) sNx) sNx)
def bB3 : Ev → Mo (Fl × Ev) := (iteM (truT (isiE "tuple" (eV 1))) (seqM (sSet 2 (eO addD (eV 2) (mlsE (eCons (slE (eV 1) (eS (eC (.int 1))) eN) (eCons (slE (eV 1) eN (eS (negE (eC (.int 1))))) (eCons (eO addD (eV 1) (slE (eV 1) (eS (negE (eC (.int 1)))) eN)) (eCons (callE listD (eCons (eV 1) eNil)) (eCons (backE (eV 1)) eNil)))))))) sNx) sNx)
def bB4 : Ev → Mo (Fl × Ev) := (sRt (callE (runN 2 f_law_pick) (eCons (eV 0) (eCons (eV 2) eNil))))
def some13 : List D := [.non, .bl true, .int 0, .tup [], .lst [], .str "some", .tup [.int 0, .int 1], .tup [.int 1, .int 1], .tup [.int (-1), .int 1], .tup [.int 2, .int 4], .tup [.bl true, .int 1], .tup [.int 1, .int 0], .tup [.tup [.int 0, .int 1]]]
theorem some13_nice : nices some13 = true := by decide +kernel
theorem seq_pure {b1 b2 : Ev → Mo (Fl × Ev)} {env env' : Ev} (h : b1 env = pure (.nx, env')) : seqM b1 b2 env = b2 env' := by
  rw [u_seqM, h, pb]
theorem Tr.seq_ret {a : Addr} {n : Nat} {b1 b2 : Ev → Mo (Fl × Ev)} {env : Ev} {P : D → Prop} (h : Tr a n (b1 env) fun r => ∃ d, r.1 = .ret d ∧ P d) : Tr a n (seqM b1 b2 env) fun r => ∃ d, r.1 = .ret d ∧ P d := by
  rw [u_seqM]
  refine Tr.bind (n1 := n) (n2 := 0) h fun r ⟨d, e, p⟩ => ?_
  obtain ⟨fl, env'⟩ := r
  dsimp only at e
  subst e
  exact Tr.pure ⟨d, rfl, p⟩
theorem dQ_seventh : (.tup [.int 1, .int 7] : D) = dQ (Rat.divInt 1 7) := by
  have e1 : (Rat.divInt 1 7).num = 1 := by decide +kernel
  have e2 : (Rat.divInt 1 7).den = 7 := by decide +kernel
  show _ = D.tup [D.int (Rat.divInt 1 7).num, D.int ((Rat.divInt 1 7).den : Int)]
  rw [e1, e2] <;> rfl
theorem sm_seventh : sm 3 (Rat.divInt 1 7) := ⟨by decide +kernel, by decide +kernel⟩
theorem nices_app {xs ys : List D} (h1 : nices xs = true) (h2 : nices ys = true) : nices (xs ++ ys) = true := nices_of fun y hy => (List.mem_append.mp hy).elim (nices_all h1 y) (nices_all h2 y)
theorem tiny_dQ {q : Rat} (h : sm 60 q) : tiny (dQ q) = true := by
  show (decide ([D.int q.num, D.int q.den].length ≤ 400) && (decide (q.num.natAbs < 2 ^ 60) && (decide ((q.den : Int).natAbs < 2 ^ 60) && true))) = true
  rw [decide_eq_true h.1, decide_eq_true (den_lt h)] <;> rfl
theorem tiny_dV {v : List Rat} (h : smV 60 v) (hl : v.length ≤ 400) : tiny (dV v) = true := by
  show (decide ((v.map dQ).length ≤ 400) && tinys (v.map dQ)) = true
  rw [List.length_map, decide_eq_true hl, tinys_of (xs := v.map dQ) (fun d hd => by
    obtain ⟨q, hq, rfl⟩ := List.mem_map.mp hd
    exact tiny_dQ (h q hq))] <;> rfl
theorem lns_tiny {d : Nat} {rows : List Row} (h : Lns d rows) : tiny (dLn rows) = true := by
  show (decide ([D.str "lines", dRows rows].length ≤ 400) && (tiny (.str "lines") && ((decide ((rows.map dRow).length ≤ 400) && tinys (rows.map dRow)) && true))) = true
  have e : tinys (rows.map dRow) = true := tinys_of fun x hx => by
    obtain ⟨r, hr, rfl⟩ := List.mem_map.mp hx
    obtain ⟨w, e, g⟩ := h.word hr
    show (decide ([D.str r.1, dV r.2].length ≤ 400) && (tiny (.str r.1) && (tiny (dV r.2) && true))) = true
    rw [tiny_dV (h.f r hr).1 (by have := (h.f r hr).2; have := h.d3; omega), e, show tiny (.str (wS w)) = true from plain_S g] <;> rfl
  rw [e, List.length_map, decide_eq_true (show rows.length ≤ 400 by have := h.l6; omega), show tiny (.str "lines") = true from okS_lines_] <;> rfl
theorem lns_dep {d : Nat} {rows : List Row} (h : Lns d rows) : dep (dLn rows) ≤ 5 := by
  show max 0 (max (deps (rows.map dRow) + 1) 0) + 1 ≤ 5
  have : deps (rows.map dRow) ≤ 3 := deps_of fun x hx => by
    obtain ⟨r, hr, rfl⟩ := List.mem_map.mp hx
    have := dep_dV r.2
    show max 0 (max (TP.dep (dV r.2)) 0) + 1 ≤ 3
    omega
  omega
section
variable {a : Addr} {x : D}
theorem bB1_val : bB1 [.dat (.ptr a), .dat x, .un, .un] = pure (.nx, [.dat (.ptr a), .dat x, .dat (.lst some13), .un]) := by
  unfold bB1
  simp [mk_nil, mk_tup0]
  rw [mkLst_ok (by simp)]
  rfl
/-- a list of nice values, not too long -/
def niceL (k : Nat) (L : List D) : Prop := L ≠ [] ∧ L.length ≤ k ∧ nices L = true
theorem bB2_val {L : List D} (h : tiny x = true) (hL : niceL 13 L) : ∃ L', bB2 [.dat (.ptr a), .dat x, .dat (.lst L), .un] = pure (.nx, [.dat (.ptr a), .dat x, .dat (.lst L'), .un]) ∧ niceL 17 L' := by
  obtain ⟨l1, l2, l3⟩ := hL
  unfold bB2
  simp [lratio_val (tiny_nice h)]
  cases hr : isRat x with
  | false =>
    simp
    exact ⟨L, rfl, l1, by omega, l3⟩
  | true =>
    obtain ⟨q, rfl, hq⟩ := isRat_some hr h
    have k1 := lplus_val hq sm_one (by decide) (by decide)
    have k2 := lminus_val hq sm_seventh (by decide) (by decide)
    have m1 : mulOk 2 q.num = true := mulOk_of (a := 2) (by decide) hq.1 (by decide) (by decide)
    have m2 : mulOk 2 (q.den : Int) = true := mulOk_of (a := 2) (by decide) (den_lt hq) (by decide) (by decide)
    have b1 := hq.1
    have b2 := hq.2
    have k3 : addD (.lst L) (.lst [dQ (q + 1), dQ (q - Rat.divInt 1 7), .tup [.int (-q.num), .int q.den], .tup [.int (2 * q.num), .int (2 * q.den)]]) = pure (.lst (L ++ [dQ (q + 1), dQ (q - Rat.divInt 1 7), .tup [.int (-q.num), .int q.den], .tup [.int (2 * q.num), .int (2 * q.den)]])) := add_lst (by show L.length + 4 ≤ 1000; omega)
    have k4 : mkLst [dQ (q + 1), dQ (q - Rat.divInt 1 7), .tup [.int (-q.num), .int q.den], .tup [.int (2 * q.num), .int (2 * q.den)]] = pure (.lst [dQ (q + 1), dQ (q - Rat.divInt 1 7), .tup [.int (-q.num), .int q.den], .tup [.int (2 * q.num), .int (2 * q.den)]]) := rfl
    refine ⟨L ++ [dQ (q + 1), dQ (q - Rat.divInt 1 7), .tup [.int (-q.num), .int q.den], .tup [.int (2 * q.num), .int (2 * q.den)]], ?_, by simp, by rw [List.length_append]; show L.length + 4 ≤ 17; omega, nices_app l3 ?_⟩
    · simp [u_seqM]
      rw [dQ_one, k1, pb, dQ_seventh, k2, pb]
      simp only [m1, m2, if_true, pb]
      rw [k4, pb, k3, pb]
    · have n1 := plain_nice _ (plain_dQ (sm_add hq sm_one) (by decide))
      have n2 := plain_nice _ (plain_dQ (sm_sub hq sm_seventh) (by decide))
      have p60 : (2 : Nat) ^ 60 ≤ 2 ^ 4000 := Nat.pow_le_pow_right (by decide) (by decide)
      have p61 : (2 : Nat) * 2 ^ 60 ≤ 2 ^ 4000 := by
        have : (2 : Nat) * 2 ^ 60 = 2 ^ 61 := by decide
        rw [this]
        exact Nat.pow_le_pow_right (by decide) (by decide)
      have n3 : nice (.tup [.int (-q.num), .int q.den]) = true := by
        show (decide ((-q.num).natAbs < 2 ^ 4000) && (decide ((q.den : Int).natAbs < 2 ^ 4000) && true)) = true
        rw [Int.natAbs_neg, Int.natAbs_natCast, decide_eq_true (Nat.lt_of_lt_of_le b1 p60), decide_eq_true (Nat.lt_of_lt_of_le b2 p60)] <;> rfl
      have n4 : nice (.tup [.int (2 * q.num), .int (2 * q.den)]) = true := by
        show (decide ((2 * q.num).natAbs < 2 ^ 4000) && (decide ((2 * (q.den : Int)).natAbs < 2 ^ 4000) && true)) = true
        rw [decide_eq_true (Nat.lt_of_lt_of_le (show (2 * q.num).natAbs < 2 * 2 ^ 60 by omega) p61), decide_eq_true (Nat.lt_of_lt_of_le (show (2 * (q.den : Int)).natAbs < 2 * 2 ^ 60 by omega) p61)] <;> rfl
      refine nices_of fun y hy => ?_
      simp only [List.mem_cons, List.not_mem_nil, or_false] at hy
      rcases hy with rfl | rfl | rfl | rfl
      · exact n1
      · exact n2
      · exact n3
      · exact n4
theorem bB3_val {L : List D} (h : tiny x = true) (hL : niceL 17 L) : ∃ L', bB3 [.dat (.ptr a), .dat x, .dat (.lst L), .un] = pure (.nx, [.dat (.ptr a), .dat x, .dat (.lst L'), .un]) ∧ niceL 22 L' := by
  obtain ⟨l1, l2, l3⟩ := hL
  unfold bB3
  simp [i_tup (tiny_nice h)]
  cases ht : isT x with
  | false =>
    simp
    exact ⟨L, rfl, l1, by omega, l3⟩
  | true =>
    obtain ⟨xs, rfl⟩ := isT_eq ht
    have h' : (decide (xs.length ≤ 400) && tinys xs) = true := h
    rw [Bool.and_eq_true, decide_eq_true_eq] at h'
    have nx : nices xs = true := plains_nice xs (tinys_plain xs h'.2)
    have c1 := cutG_length xs (some (-1)) none
    have e1 : slD (.tup xs) (some 1) none = pure (.tup (cutG xs (some 1) none)) := rfl
    have e2 : slD (.tup xs) none (some (-1)) = pure (.tup (cutG xs none (some (-1)))) := rfl
    have e3 : slD (.tup xs) (some (-1)) none = pure (.tup (cutG xs (some (-1)) none)) := rfl
    have e4 : addD (.tup xs) (.tup (cutG xs (some (-1)) none)) = pure (.tup (xs ++ cutG xs (some (-1)) none)) := add_tup (by omega)
    have e5 : listD [.tup xs] = pure (.lst xs) := rfl
    have e6 : backD (.tup xs) = pure (.tup xs.reverse) := rfl
    have k8 : intO (.int (-1)) = some (some (-1)) := rfl
    have k9 : intO (.int 1) = some (some 1) := rfl
    have k3 : addD (.lst L) (.lst [.tup (cutG xs (some 1) none), .tup (cutG xs none (some (-1))), .tup (xs ++ cutG xs (some (-1)) none), .lst xs, .tup xs.reverse]) = pure (.lst (L ++ [.tup (cutG xs (some 1) none), .tup (cutG xs none (some (-1))), .tup (xs ++ cutG xs (some (-1)) none), .lst xs, .tup xs.reverse])) := add_lst (by show L.length + 5 ≤ 1000; omega)
    have k4 : mkLst [.tup (cutG xs (some 1) none), .tup (cutG xs none (some (-1))), .tup (xs ++ cutG xs (some (-1)) none), .lst xs, .tup xs.reverse] = pure (.lst [.tup (cutG xs (some 1) none), .tup (cutG xs none (some (-1))), .tup (xs ++ cutG xs (some (-1)) none), .lst xs, .tup xs.reverse]) := rfl
    refine ⟨L ++ [.tup (cutG xs (some 1) none), .tup (cutG xs none (some (-1))), .tup (xs ++ cutG xs (some (-1)) none), .lst xs, .tup xs.reverse], ?_, by simp, by rw [List.length_append]; show L.length + 5 ≤ 22; omega, nices_app l3 ?_⟩
    · simp [u_seqM, k8, k9, e1, e2, e3, e4, e5, e6, k3, k4]
    · refine nices_of fun y hy => ?_
      simp only [List.mem_cons, List.not_mem_nil, or_false] at hy
      rcases hy with rfl | rfl | rfl | rfl | rfl
      · exact nices_sub nx fun y hy => mem_cutG hy
      · exact nices_sub nx fun y hy => mem_cutG hy
      · exact nices_sub nx fun y hy => (List.mem_append.mp hy).elim id mem_cutG
      · exact nx
      · exact nices_sub nx fun y hy => List.mem_reverse.mp hy
theorem tr_bB4 {L : List D} (hL : niceL 22 L) : Tr a 1 (bB4 [.dat (.ptr a), .dat x, .dat (.lst L), .un]) fun r => ∃ d, r.1 = .ret d ∧ nice d = true := by
  unfold bB4
  simp [u_seqM]
  refine Tr.bind (n1 := 1) (n2 := 0) (Tr.pick hL.1 (by have := hL.2.1; omega)) fun d hd => Tr.pure ⟨d, rfl, nices_all hL.2.2 d hd⟩
theorem tr_bK (h : tiny x = true) : Tr a 1 (seqM bB1 (seqM bB2 (seqM bB3 (seqM bB4 sNx))) [.dat (.ptr a), .dat x, .un, .un]) fun r => ∃ d, r.1 = .ret d ∧ nice d = true := by
  obtain ⟨L2, e2, h2⟩ := bB2_val (a := a) h (L := some13) ⟨by decide, by decide, some13_nice⟩
  obtain ⟨L3, e3, h3⟩ := bB3_val (a := a) h h2
  rw [seq_pure bB1_val, seq_pure e2, seq_pure e3]
  exact (tr_bB4 h3).seq_ret
def bT : Ev → Mo Bool := (tOr (notT (truT (isiE "tuple" (eV 1)))) (tOr (tstB (cmE .Eq (eV 1) (tupE eNil))) (tstB (cmE .Eq (callE (runN 2 f_law_draw) (eCons (eV 0) (eCons (eC (.int 6)) eNil))) (eC (.int 0))))))
def bR (n : Nat) : Ev → Mo (Fl × Ev) := (seqM (sSet 3 (callE (runN 2 f_law_draw) (eCons (eV 0) (eCons (callE lenD (eCons (eV 1) eNil)) eNil)))) (seqM (sRt (eO addD (eO addD (slE (eV 1) eN (eS (eV 3))) (tupE (eCons (callE (runN 2 (f_law_ph_bent n)) (eCons (eV 0) (eCons (ixE (eV 1) (eV 3)) eNil))) eNil))) (slE (eV 1) (eS (eO addD (eV 3) (eC (.int 1)))) eN))) sNx))
theorem c_bent (n : Nat) : f_law_ph_bent (n + 1) = runB (seqM (iteM bT (seqM bB1 (seqM bB2 (seqM bB3 (seqM bB4 sNx)))) sNx) (bR n)) 4 := rfl
theorem Tr.ite_seq {n1 n2 : Nat} {c : Ev → Mo Bool} {A B R : Ev → Mo (Fl × Ev)} {env : Ev} {P : Bool → Prop} {Q : Fl × Ev → Prop} (hc : Tr a n1 (c env) P) (h1 : P true → Tr a n2 (seqM A R env) Q) (h2 : P false → Tr a n2 (seqM B R env) Q) : Tr a (n1 + n2) (seqM (iteM c A B) R env) Q := by
  rw [u_seqM, u_iteM, mo_assoc]
  refine Tr.bind hc fun b hb => ?_
  cases b with
  | true => exact h1 hb
  | false => exact h2 hb
theorem Tr.runB {n N : Nat} {b : Ev → Mo (Fl × Ev)} {ds : List D} {P : D → Prop} (h : Tr a n (b (envOf N ds)) fun r => ∃ d, r.1 = .ret d ∧ P d) : Tr a n (TL.runB b N ds) P := by
  rw [u_runB]
  refine Tr.bind (n1 := n) (n2 := 0) h fun r ⟨d, e, p⟩ => ?_
  obtain ⟨fl, env'⟩ := r
  dsimp only at e
  subst e
  exact Tr.pure p
theorem eq_tnil {xs : List D} (h : goods xs = true) (hd : deps xs ≤ 60) : cmF .Eq (.tup xs) (.tup []) = pure (.bl xs.isEmpty) := by
  show Mo.of ((eqO _ _).map D.bl) = _
  rw [eqO_tnil h hd] <;> rfl
theorem tr_bT (h : tiny x = true) (hd : dep x ≤ 50) : Tr a 1 (bT [.dat (.ptr a), .dat x, .un, .un]) fun b => b = false → ∃ xs, x = .tup xs ∧ xs ≠ [] := by
  unfold bT
  simp [i_tup (tiny_nice h)]
  cases ht : isT x with
  | false =>
    simp
    exact Tr.pure fun z => by cases z
  | true =>
    obtain ⟨xs, rfl⟩ := isT_eq ht
    have h' : (decide (xs.length ≤ 400) && tinys xs) = true := h
    rw [Bool.and_eq_true, decide_eq_true_eq] at h'
    have hg := plains_good xs (tinys_plain xs h'.2)
    have hd : deps xs + 1 ≤ 50 := hd
    simp [eq_tnil hg (by omega)]
    cases xs with
    | nil =>
      simp
      exact Tr.pure rfl
    | cons y ys =>
      simp
      refine Tr.bind (n1 := 1) (n2 := 0) (Tr.draw (by decide) (by decide)) fun d ⟨i, e, i0, i1⟩ => ?_
      subst e
      rw [cm_eq, pb, toB_bl]
      exact Tr.pure True.intro
theorem tr_bent : ∀ (n : Nat) (x : D), tiny x = true → dep x < n → n ≤ 50 → Tr a (2 * n) (f_law_ph_bent n [.ptr a, x]) fun d => nice d = true
  | 0, x, _, hd, _ => absurd hd (Nat.not_lt_zero _)
  | n + 1, x, h, hd, hn => by
    rw [c_bent]
    refine Tr.runB ?_
    show Tr a _ (seqM _ (bR n) [.dat (.ptr a), .dat x, .un, .un]) _
    refine (Tr.ite_seq (n1 := 1) (n2 := 2 * n + 1) (tr_bT h (by omega)) (fun _ => ((tr_bK h).mono (by omega) fun _ h => h).seq_ret) fun hf => ?_).mono (by omega) fun _ h => h
    obtain ⟨xs, rfl, hne⟩ := hf rfl
    have h' : (decide (xs.length ≤ 400) && tinys xs) = true := h
    rw [Bool.and_eq_true, decide_eq_true_eq] at h'
    have hp : 0 < xs.length := List.length_pos_iff.mpr hne
    rw [seq_pure (b1 := sNx) (by rfl)]
    unfold bR
    simp [u_seqM]
    refine (Tr.bind (n1 := 1) (n2 := 2 * n) (Tr.draw (by omega) (by omega)) fun d ⟨i, e, i0, i1⟩ => ?_).mono (by omega) fun _ h => h
    subst e
    obtain ⟨y, e, hy⟩ := ixt_mem i0 i1
    simp [intO]
    have e1 : slD (.tup xs) none (some i) = pure (.tup (cutG xs none (some i))) := rfl
    have e2 : slD (.tup xs) (some (i + 1)) none = pure (.tup (cutG xs (some (i + 1)) none)) := rfl
    have c1 := cutG_length xs none (some i)
    have c2 := cutG_length xs (some (i + 1)) none
    have nx : nices xs = true := plains_nice xs (tinys_plain xs h'.2)
    have dy : dep y ≤ deps xs := deps_all (Nat.le_refl _) y hy
    have dx : deps xs + 1 < n + 1 := hd
    rw [e, e1, e2, pb, pb]
    refine (Tr.bind (n1 := 2 * n) (n2 := 0) (tr_bent n y (tinys_all h'.2 y hy) (by omega) (by omega)) fun z hz => ?_).mono (by omega) fun _ h => h
    rw [add_tup (by show _ + 1 ≤ 1000; omega), pb, pb, add_tup (by rw [List.length_append]; show _ + 1 + _ ≤ 1000; omega), pb]
    refine Tr.pure ⟨_, rfl, nices_app (nices_app (nices_sub nx fun y hy => mem_cutG hy) ?_) (nices_sub nx fun y hy => mem_cutG hy)⟩
    show (nice z && true) = true
    rw [hz] <;> rfl
end
end TP
end
end

-- text TpC
section
set_option maxHeartbeats 4000000
set_option autoImplicit false
namespace TP
open PySem PySem.Spec L2 TL
/-! ### values near lines -/
theorem flat_ones {α : Type} (y : α) : ∀ k, (List.replicate k [y]).flatten = List.replicate k y
  | 0 => rfl
  | k + 1 => by rw [List.replicate_succ, List.flatten_cons, flat_ones y k, List.replicate_succ] <;> rfl
theorem mul_tup1 {y : D} {k : Nat} (h1 : 1 ≤ k) (h2 : k ≤ 1000) : multD (.tup [y]) (.int (k : Int)) = pure (.tup (List.replicate k y)) := by
  show (if (k : Int) = 1 then (pure (.tup [y]) : Mo D) else if 2 ≤ (k : Int) ∧ (k : Int) ≤ 1000 ∧ 1 ≤ [y].length ∧ [y].length ≤ 1000 then pure (.tup (List.replicate (k : Int).toNat [y]).flatten) else Mo.fail) = _
  by_cases c : (k : Int) = 1
  · rw [if_pos c]
    have : k = 1 := by omega
    subst this
    rfl
  · rw [if_neg c, if_pos ⟨by omega, by omega, by show 1 ≤ 1; decide, by show 1 ≤ 1000; decide⟩, flat_ones, Int.toNat_natCast]
theorem mul_lst1 {y : D} {k : Nat} (h2 : k ≤ 1000) : multD (.lst [y]) (.int (k : Int)) = pure (.lst (List.replicate k y)) := by
  show (if 0 ≤ (k : Int) ∧ (k : Int) ≤ 1000 ∧ [y].length ≤ 1000 then (pure (.lst (List.replicate (k : Int).toNat [y]).flatten) : Mo D) else Mo.fail) = _
  rw [if_pos ⟨by omega, by omega, by show 1 ≤ 1000; decide⟩, flat_ones, Int.toNat_natCast]
theorem nices_rep {y : D} (h : nice y = true) (k : Nat) : nices (List.replicate k y) = true := nices_of fun z hz => by rw [List.eq_of_mem_replicate hz]; exact h
abbrev abc7 : List D := [.str "a", .str "b", .str "c", .str "d", .str "e", .str "f", .str "g"]
theorem nt2 {x y : D} (h1 : nice x = true) (h2 : nice y = true) : nice (.tup [x, y]) = true := by
  show (nice x && (nice y && true)) = true
  rw [h1, h2] <;> rfl
def odd14 : List D := [.non, .bl true, .int 0, .int 5, .str "", .str "table", .tup [], .lst [], .dnil, .tup [.tup [.int 0, .int 1], .tup [.int 1, .int 1]], .tup [.str "table"], .tup [.str "program", .tup []], .tup [.str "table", .tup []], .tup [.str "standin", .tup []]]
def odd3 : List D := [.tup [.str "program", .tup [.tup [.int 1, .int 1]]], .tup [.str "table", .tup [.tup [.str "a", .tup [.tup [.int 1, .int 1]]]]], .tup [.str "standin", .tup [.tup [], .tup []]]]
theorem odd_nice : nices (odd14 ++ odd3) = true := by decide +kernel
section
variable {a : Addr}
theorem tr_odd : Tr a 1 (f_law_odd [.ptr a]) fun d => nice d = true := by
  rw [c_law_odd, u_runB]
  simp [u_seqM, envOf, mk_nil]
  have e1 : mkLst odd14 = pure (.lst odd14) := mkLst_ok (by decide)
  have e2 : mkLst odd3 = pure (.lst odd3) := mkLst_ok (by decide)
  have e3 : addD (.lst odd14) (.lst odd3) = pure (.lst (odd14 ++ odd3)) := add_lst (by decide)
  show Tr a 1 (mkLst odd14 >>= fun l => mkLst odd3 >>= fun m => addD l m >>= fun s => f_law_pick [.ptr a, s]) _
  rw [e1, pb, e2, pb, e3, pb]
  exact (Tr.pick (by decide) (by decide)).mono (Nat.le_refl _) fun y hy => nices_all odd_nice y hy
theorem near_lst {n k : Nat} {L : List D} {K : D → Mo D} {P : D → Prop} (hk : ∀ L, nices L = true → L.length ≤ k → L ≠ [] → Tr a n (K (.lst L)) P) (h1 : nices L = true) (h2 : L.length ≤ k) (h3 : L ≠ []) (h4 : k ≤ 1000) : Tr a n (mkLst L >>= K) P := by
  rw [mkLst_ok (Nat.le_trans h2 h4), pb]
  exact hk L h1 h2 h3
theorem near_add {n k j : Nat} {L L' : List D} {K : D → Mo D} {P : D → Prop} (hk : ∀ L, nices L = true → L.length ≤ k + j → L ≠ [] → Tr a n (K (.lst L)) P) (h1 : nices L = true) (h2 : L.length ≤ k) (h3 : L ≠ []) (g1 : nices L' = true) (g2 : L'.length ≤ j) (h4 : k + j ≤ 1000) : Tr a n (addD (.lst L) (.lst L') >>= K) P := by
  rw [add_lst (by omega), pb]
  exact hk _ (nices_app h1 g1) (by rw [List.length_append]; omega) (by simp [h3])
theorem tr_near {d : Nat} {rows : List Row} (h : Lns d rows) : Tr a 40 (f_law_near [.ptr a, dLn rows]) fun y => nice y = true := by
  obtain ⟨r0, rest, rfl⟩ : ∃ r0 rest, rows = r0 :: rest := by
    cases rows with
    | nil => exact absurd rfl h.ne
    | cons r0 rest => exact ⟨r0, rest, rfl⟩
  have l0 := (h.f r0 (List.mem_cons_self ..)).2
  have i1 : ixD (dLn (r0 :: rest)) (.int 1) = pure (dRows (r0 :: rest)) := rfl
  have i2 : ixD (dRows (r0 :: rest)) (.int 0) = pure (dRow r0) := ixt_nat _ 0
  have i3 : ixD (dRow r0) (.int 1) = pure (dV r0.2) := rfl
  have i4 : lenD [dV r0.2] = pure (.int ((d + 1 : Nat) : Int)) := by
    show (pure (.int ((r0.2.map dQ).length : Int)) : Mo D) = _
    rw [List.length_map, l0]
  have i5 := mul_tup1 (y := .tup [.int 0, .int 1]) (k := d + 1) (by omega) (by have := h.d3; omega)
  rw [c_law_near, u_runB]
  simp [u_seqM, envOf]
  have nl := h.nice
  have nr : nices ((r0 :: rest).map dRow) = true := plains_nice _ (show plainDs _ = true from h.plain_rows)
  have lr : ((r0 :: rest).map dRow).length ≤ 6 := by rw [List.length_map]; exact h.l6
  have c1 := cutG_length ((r0 :: rest).map dRow) (some (-1)) none
  have nS : nice (.str "lines") = true := by decide +kernel
  have nS1 : nice (.str "line") = true := by decide +kernel
  have nz : nice (.tup [.int 0, .int 1]) = true := by decide +kernel
  have nf : nice (.tup (List.replicate (d + 1) (.tup [.int 0, .int 1]))) = true := nices_rep nz (d + 1)
  have lf : (List.replicate (d + 1) (D.tup [.int 0, .int 1])).length = d + 1 := List.length_replicate
  have d3 := h.d3
  have e1 : backD (dRows (r0 :: rest)) = pure (.tup ((r0 :: rest).map dRow).reverse) := rfl
  have k8 : intO (.int (-1)) = some (some (-1)) := rfl
  have e2 : slD (dRows (r0 :: rest)) (some (-1)) none = pure (.tup (cutG ((r0 :: rest).map dRow) (some (-1)) none)) := rfl
  have e3 : addD (dRows (r0 :: rest)) (.tup (cutG ((r0 :: rest).map dRow) (some (-1)) none)) = pure (.tup ((r0 :: rest).map dRow ++ cutG ((r0 :: rest).map dRow) (some (-1)) none)) := add_tup (by omega)
  have e4 : listD [dLn (r0 :: rest)] = pure (.lst [.str "lines", dRows (r0 :: rest)]) := rfl
  have e5 : listD [dRows (r0 :: rest)] = pure (.lst ((r0 :: rest).map dRow)) := rfl
  have e6 : multD (.tup [.tup [.int 1, .int 1]]) (.int 5) = pure (.tup (List.replicate 5 (.tup [.int 1, .int 1]))) := mul_tup1 (k := 5) (by decide) (by decide)
  rw [i2, pb, i3, pb, i4, pb, i5, pb, e1, pb, k8, mo_some, pb, e2, pb, e3, pb, e4, pb, e5, pb]
  refine near_lst (k := 6) (fun L n1 l1 z1 => ?_) ?_ (by simp) (by simp) (by decide)
  · rw [e6, pb]
    refine (Tr.bind (n1 := 1) (n2 := 39) tr_odd fun o no => ?_)
    refine near_lst (k := 3) (fun L2 n2 l2 z2 => ?_) ?_ (by show 3 ≤ 3; decide) (by simp) (by decide)
    · refine near_add (k := 6) (j := 3) (fun L3 n3 l3 z3 => ?_) n1 l1 z1 n2 l2 (by decide)
      rw [mkLst_ok (by simp), pb]
      refine (Tr.bind (n1 := 1) (n2 := 38) (Tr.draw (by decide) (by decide)) fun x ⟨j, e, j0, j1⟩ => ?_)
      subst e
      rw [add_ii, pb]
      have k9 : intO (.int (6 + j)) = some (some (6 + j)) := rfl
      have e7 : slD (.lst abc7) none (some (6 + j)) = pure (.lst (cutG abc7 none (some (6 + j)))) := rfl
      have n7 : nices abc7 = true := by decide +kernel
      rw [k9, mo_some, pb, e7, pb, it_lst, pb]
      have nc := nices_sub n7 (ys := cutG abc7 none (some (6 + j))) fun y hy => mem_cutG hy
      generalize cutG abc7 none (some (6 + j)) = cs at nc
      rw [comp_self (f := fun y => .tup [y, .tup (List.replicate (d + 1) (.tup [.int 0, .int 1]))]) (fun y hy => by simp [wipeE]), pb]
      have nm : nices (cs.map fun y => D.tup [y, .tup (List.replicate (d + 1) (.tup [.int 0, .int 1]))]) = true := nices_of fun y hy => by
        obtain ⟨c, hc, rfl⟩ := List.mem_map.mp hy
        show (nice c && (nice (.tup (List.replicate (d + 1) (.tup [.int 0, .int 1]))) && true)) = true
        rw [nices_all nc c hc, nf] <;> rfl
      have lz : plainD (.str "zzzzzzzz") = true := by decide +kernel
      rw [add_tup (by rw [lf]; show d + 1 + 1 ≤ 1000; omega), pb, add_tup (by show _ + 1 ≤ 1000; omega), pb]
      refine near_lst (k := 2) (fun L4 n4 l4 z4 => ?_) ?_ (by show 2 ≤ 2; decide) (by simp) (by decide)
      · refine near_add (k := 9) (j := 2) (fun L5 n5 l5 z5 => ?_) n3 l3 z3 n4 l4 (by decide)
        refine (Tr.bind (n1 := 2 * 10) (n2 := 18) (tr_bent 10 (dLn (r0 :: rest)) (lns_tiny h) (Nat.lt_of_le_of_lt (lns_dep h) (by decide)) (by decide)) fun b nb => ?_)
        rw [mkLst_ok (by simp), pb]
        have e8 := mul_lst1 (y := b) (k := 12) (by decide)
        have e8 : multD (.lst [b]) (.int 12) = pure (.lst (List.replicate 12 b)) := e8
        rw [e8, pb]
        refine near_add (k := 11) (j := 12) (fun L6 n6 l6 z6 => ?_) n5 l5 z5 (nices_rep nb 12) (by rw [List.length_replicate]; decide) (by decide)
        exact (Tr.pick z6 (by omega)).mono (by decide) fun y hy => nices_all n6 y hy
      · refine nices_of fun y hy => ?_
        simp only [List.mem_cons, List.not_mem_nil, or_false] at hy
        rcases hy with rfl | rfl
        · exact nt2 nS nm
        · refine nt2 nS (nices_app nr ?_)
          have nq : nice (.tup (List.replicate (d + 1) (.tup [.int 0, .int 1]) ++ [.tup [.int 0, .int 1]])) = true := nices_app nf (by decide +kernel)
          have np := nt2 (plain_nice _ lz) nq
          refine nices_of fun z hz => ?_
          rw [List.mem_singleton.mp hz]
          exact np
    · refine nices_of fun y hy => ?_
      simp only [List.mem_cons, List.not_mem_nil, or_false] at hy
      rcases hy with rfl | rfl | rfl
      · decide +kernel
      · decide +kernel
      · exact no
  · refine nices_of fun y hy => ?_
    simp only [List.mem_cons, List.not_mem_nil, or_false] at hy
    rcases hy with rfl | rfl | rfl | rfl | rfl | rfl
    · exact nt2 nS (nices_sub nr fun y hy => List.mem_reverse.mp hy)
    · exact nt2 nS (nices_app nr (nices_sub nr fun y hy => mem_cutG hy))
    · decide +kernel
    · exact nt2 nS nr
    · exact nt2 nS1 nr
    · exact nt2 nS nr
end
end TP
end

-- text TpE
section
set_option maxHeartbeats 4000000
set_option autoImplicit false
namespace TP
open PySem PySem.Spec L2 TL
/-! ### a point where lines meet -/
section
variable {a : Addr}
theorem sl_nat_to {xs : List D} {i : Nat} (h : i ≤ xs.length) : slD (.tup xs) none (some (i : Int)) = pure (.tup (xs.take i)) := by
  show (pure (.tup (cutG xs none (some (i : Int)))) : Mo D) = _
  unfold cutG
  rw [HT.sIx_nat, HT.sIx_none, List.drop_zero, Nat.sub_zero, Nat.min_eq_left h]
theorem sl_nat_from {xs : List D} {i : Nat} (h : i ≤ xs.length) : slD (.tup xs) (some (i : Int)) none = pure (.tup (xs.drop i)) := by
  show (pure (.tup (cutG xs (some (i : Int)) none)) : Mo D) = _
  unfold cutG
  rw [HT.sIx_nat, HT.sIx_none, Nat.min_eq_left h, List.take_of_length_le (by rw [List.length_drop]; exact Nat.le_refl _)]
theorem tr_meeting {d : Nat} {rows : List Row} (h : Lns d rows) : Tr a 40 (f_law_meeting [.ptr a, dLn rows]) fun y => ∃ p, y = dV p ∧ p.length = d ∧ smV 775 p := by
  obtain ⟨r0, rest, rfl⟩ : ∃ r0 rest, rows = r0 :: rest := by
    cases rows with
    | nil => exact absurd rfl h.ne
    | cons r0 rest => exact ⟨r0, rest, rfl⟩
  have l0 := (h.f r0 (List.mem_cons_self ..)).2
  have d1 := h.d1
  have d3 := h.d3
  have i1 : ixD (dLn (r0 :: rest)) (.int 1) = pure (dRows (r0 :: rest)) := rfl
  have i2 : ixD (dRows (r0 :: rest)) (.int 0) = pure (dRow r0) := ixt_nat _ 0
  have i3 : ixD (dRow r0) (.int 1) = pure (dV r0.2) := rfl
  have i4 : lenD [dV r0.2] = pure (.int ((d + 1 : Nat) : Int)) := by
    show (pure (.int ((r0.2.map dQ).length : Int)) : Mo D) = _
    rw [List.length_map, l0]
  have ed : ((d + 1 : Nat) : Int) - 1 = (d : Int) := by omega
  have np : ((r0 :: rest).map dRow) ≠ [] := by simp
  have lp : ((r0 :: rest).map dRow).length < 2 ^ 50 := by rw [List.length_map]; have := h.l6; omega
  rw [c_law_meeting, u_runB]
  simp [u_seqM, envOf]
  rw [i2, pb, i3, pb, i4, pb, sub_ii, ed, pb]
  refine (Tr.bind (n1 := 1) (n2 := 39) (Tr.pickt np lp) fun x hx => ?_)
  obtain ⟨ra, ha, rfl⟩ := List.mem_map.mp hx
  have ia : ixD (dRow ra) (.int 1) = pure (dV ra.2) := rfl
  rw [ia, pb]
  refine (Tr.bind (n1 := 1) (n2 := 38) (Tr.pickt np lp) fun x hx => ?_)
  obtain ⟨rb, hb, rfl⟩ := List.mem_map.mp hx
  have ib : ixD (dRow rb) (.int 1) = pure (dV rb.2) := rfl
  rw [ib, pb]
  obtain ⟨sa, la⟩ := h.f ra ha
  obtain ⟨sb, lb⟩ := h.f rb hb
  have k8 : intO (.int (-1)) = some (some (-1)) := rfl
  have ka := sl_dV (f := ra.2) (by omega)
  have kb := sl_dV (f := rb.2) (by omega)
  rw [k8, mo_some, pb, ka, pb, pb, kb, pb]
  have lr : (subQ ra.2.dropLast rb.2.dropLast).length = d := by
    unfold subQ
    rw [List.length_map, List.length_zip, List.length_dropLast, List.length_dropLast]
    omega
  have sr : smV 121 (subQ ra.2.dropLast rb.2.dropLast) := sub_sm (smV_drop sa) (smV_drop sb)
  have er : dV (subQ ra.2.dropLast rb.2.dropLast) = .tup ((ra.2.dropLast.zip rb.2.dropLast).map fun p => dQ (p.1 - p.2)) := by
    show D.tup ((subQ ra.2.dropLast rb.2.dropLast).map dQ) = _
    unfold subQ
    rw [List.map_map] <;> rfl
  rw [zip_tt, pb, pairs_map, comp_map (f := fun p => dQ (p.1 - p.2)) (fun p hp => by
    obtain ⟨h1, h2⟩ := zip_sm (smV_drop sa) (smV_drop sb) hp
    have k7 := lminus_val h1 h2 (by decide) (by decide)
    simp [-List.map_map, wipeE, k7]), pb, ← er]
  generalize subQ ra.2.dropLast rb.2.dropLast = row at lr sr
  refine (Tr.bind (n1 := 3 * 9) (n2 := 11) ((Tr.vector (k := d) (by omega) (by decide) (by decide)).mono (Nat.mul_le_mul_right 9 d3) fun _ h => h) fun x ⟨pt, e, lpt, spt⟩ => ?_)
  subst e
  rw [rng_i _ (by omega), pb]
  rw [comp_filter (e := fun i : Nat => D.int (i : Int)) (p := fun i => !decide ((row.getD i 0).num = 0)) (f := fun i : Nat => D.int (i : Int)) (fun i hi => by
    have hi := List.mem_range.mp hi
    have e1 : ixD (dV row) (.int (i : Int)) = pure (dQ (row.getD i 0)) := by
      rw [ixt_nat, List.getElem?_map, List.getElem?_eq_getElem (by omega), List.getD_eq_getElem?_getD, List.getElem?_eq_getElem (by omega)] <;> rfl
    simp [-List.map_map, wipeE, e1]
    split <;> rfl), pb]
  have hg : goods (((List.range d).filter fun i => !decide ((row.getD i 0).num = 0)).map fun i : Nat => D.int (i : Int)) = true := goods_of fun x hx => by
    obtain ⟨i, hi, rfl⟩ := List.mem_map.mp hx
    have hi := List.mem_range.mp (List.mem_filter.mp hi).1
    exact decide_eq_true (Nat.lt_of_lt_of_le (show (i : Int).natAbs < 2 ^ 2 by rw [Int.natAbs_natCast]; omega) (Nat.pow_le_pow_right (by decide) (by decide)))
  have hdp : deps (((List.range d).filter fun i => !decide ((row.getD i 0).num = 0)).map fun i : Nat => D.int (i : Int)) ≤ 60 := deps_of fun x hx => by
    obtain ⟨i, hi, rfl⟩ := List.mem_map.mp hx
    exact Nat.zero_le _
  have heq : cmF .Eq (.lst (((List.range d).filter fun i => !decide ((row.getD i 0).num = 0)).map fun i : Nat => D.int (i : Int))) (.lst []) = pure (.bl ((List.range d).filter fun i => !decide ((row.getD i 0).num = 0)).isEmpty) := by
    show Mo.of ((eqO _ _).map D.bl) = _
    rw [eqO_lnil hg hdp, List.isEmpty_map] <;> rfl
  rw [mk_nil, pb, heq, pb, toB_bl, pb]
  cases hpl : (List.range d).filter fun i => !decide ((row.getD i 0).num = 0) with
  | nil => exact Tr.pure ⟨pt, rfl, lpt, smV_mono spt (by decide)⟩
  | cons i more =>
    have hi : i ∈ (List.range d).filter fun i => !decide ((row.getD i 0).num = 0) := by rw [hpl]; exact List.mem_cons_self ..
    obtain ⟨hi1, hi2⟩ := List.mem_filter.mp hi
    have hi1 := List.mem_range.mp hi1
    have hi2 : row.getD i 0 ≠ 0 := fun z => by
      rw [z] at hi2
      exact absurd hi2 (by decide)
    show Tr a 11 (if false = true then _ else _) _
    rw [if_neg (by decide)]
    refine (Tr.bind (n1 := 1) (n2 := 10) (Tr.draw (by decide) (by decide)) fun x ⟨j, e, j0, j1⟩ => ?_)
    subst e
    rw [cm_eq, pb, toB_bl, pb]
    by_cases cj : (j == 0) = true
    · rw [if_pos cj]
      exact Tr.pure ⟨pt, rfl, lpt, smV_mono spt (by decide)⟩
    · rw [if_neg cj]
      have hpr : (prodQ row pt).length ≤ 3 := by rw [prod_len, lr, lpt]; omega
      have m1 := ldot_val sr spt (Nat.le_trans (Nat.add_le_add_left (Nat.mul_le_mul_right _ hpr) _) (by decide)) (by decide)
      have d1 : sm 490 (dotQ row pt) := sm_mono (dot_sm sr spt) (Nat.le_trans (Nat.add_le_add_left (Nat.mul_le_mul_right _ hpr) _) (by decide))
      have m2 := ix_last (f := ra.2) (by omega)
      have m3 := ix_last (f := rb.2) (by omega)
      have m4 := lminus_val (smV_last sa (by omega)) (smV_last sb (by omega)) (by decide) (by decide)
      have d4 := sm_sub (smV_last sa (by omega)) (smV_last sb (by omega))
      have m5 := lplus_val d1 d4 (by decide) (by decide)
      have d5 := sm_add d1 d4
      have m6 : ixD (.lst ((i :: more).map fun i : Nat => D.int (i : Int))) (.int 0) = pure (.int (i : Int)) := ixl_nat _ 0
      have m7 : intO (.int (i : Int)) = some (some (i : Int)) := rfl
      have m8 := sl_nat_to (xs := pt.map dQ) (i := i) (by rw [List.length_map]; omega)
      have m9 : ixD (dV pt) (.int (i : Int)) = pure (dQ (pt.getD i 0)) := by
        rw [ixt_nat, List.getElem?_map, List.getElem?_eq_getElem (by omega), List.getD_eq_getElem?_getD, List.getElem?_eq_getElem (by omega)] <;> rfl
      have m10 : ixD (dV row) (.int (i : Int)) = pure (dQ (row.getD i 0)) := by
        rw [ixt_nat, List.getElem?_map, List.getElem?_eq_getElem (by omega), List.getD_eq_getElem?_getD, List.getElem?_eq_getElem (by omega)] <;> rfl
      have gr : sm 121 (row.getD i 0) := by
        rw [List.getD_eq_getElem?_getD, List.getElem?_eq_getElem (by omega)]
        exact sr _ (List.getElem_mem _)
      have gp : sm 41 (pt.getD i 0) := by
        rw [List.getD_eq_getElem?_getD, List.getElem?_eq_getElem (by omega)]
        exact spt _ (List.getElem_mem _)
      obtain ⟨q, m11, dq⟩ := lover_val d5 gr (by decide) (by decide) hi2
      have m12 := lminus_val gp dq (by decide) (by decide)
      have d12 := sm_sub gp dq
      have m13 : (i : Int) + 1 = ((i + 1 : Nat) : Int) := by omega
      have m14 : intO (.int ((i + 1 : Nat) : Int)) = some (some ((i + 1 : Nat) : Int)) := rfl
      have m15 := sl_nat_from (xs := pt.map dQ) (i := i + 1) (by rw [List.length_map]; omega)
      have t1 : (List.take i (pt.map dQ)).length ≤ 3 := by rw [List.length_take, List.length_map]; omega
      have t2 : (List.drop (i + 1) (pt.map dQ)).length ≤ 3 := by rw [List.length_drop, List.length_map]; omega
      rw [m1, pb, m2, pb, m3, pb, m4, pb, m5, pb, m6, pb, m7, mo_some, pb, m8, pb, m9, pb, m10, pb, m11, pb, m12, pb, add_tup (by show _ + 1 ≤ 1000; omega), pb, add_ii, pb, m13, m14, mo_some, pb, m15, pb, add_tup (by rw [List.length_append]; show _ + 1 + _ ≤ 1000; omega)]
      refine Tr.pure ⟨pt.take i ++ [pt.getD i 0 - q] ++ pt.drop (i + 1), ?_, ?_, fun z hz => ?_⟩
      · show D.tup _ = D.tup _
        rw [List.map_append, List.map_append, List.map_take, List.map_drop] <;> rfl
      · rw [List.length_append, List.length_append, List.length_take, List.length_drop]
        show min i pt.length + 1 + (pt.length - (i + 1)) = d
        omega
      · rcases List.mem_append.mp hz with hz | hz
        · rcases List.mem_append.mp hz with hz | hz
          · exact sm_mono (spt z (List.mem_of_mem_take hz)) (by decide)
          · rw [List.mem_singleton.mp hz]
            exact sm_mono d12 (by decide)
        · exact sm_mono (spt z (List.mem_of_mem_drop hz)) (by decide)
end
end TP
end

-- text TpP
section
set_option maxHeartbeats 4000000
set_option autoImplicit false
noncomputable section
namespace TP
open PySem PySem.Spec L2 TL
/-! ### what is chosen at drawn points is due -/
def pB1 : Ev → Mo (Fl × Ev) := (sSet 4 (callE (runN 2 f_law_meeting) (eCons (eV 0) (eCons (eV 1) eNil))))
def pB2 : Ev → Mo (Fl × Ev) := (sSet 5 (callE (runN 2 f_law_ln_chosen) (eCons (eV 1) (eCons (eV 4) eNil))))
def pB3 : Ev → Mo (Fl × Ev) := (iteM (notT (truT (callE (runN 2 f_law_same) (eCons (kw0E 2 [1, 0] f_chosen (eCons (eV 4) (eCons (eV 1) eNil))) (eCons (eV 5) eNil))))) (seqM (sRt (eC (.bl false))) sNx) sNx)
def pI1 : Ev → Mo (Fl × Ev) := (sSet 8 (callE (runN 2 f_law_ln_limits) (eCons (eV 1) (eCons (eV 6) eNil))))
def pI2 : Ev → Mo (Fl × Ev) := (iteM (tOr (notT (truT (callE (runN 2 f_law_same) (eCons (kwE 1 1 [0, 1] f_region (eCons (eV 1) eNil) (eCons (eV 6) eNil)) (eCons (tupE (eCons (eC (.str "polyhedron")) (eCons (eV 2) (eCons (eV 8) eNil)))) eNil))))) (tstB (cmE .NotEq (callE (runN 2 f_law_ph_keeps) (eCons (eV 8) (eCons (eV 4) eNil))) (cmE .In (eV 6) (eV 5))))) (seqM (sRt (eC (.bl false))) sNx) sNx)
theorem sz_dQ (q : Rat) : sz (dQ q) = 3 := rfl
theorem szs_le {k : Nat} : ∀ {xs : List D}, (∀ x, x ∈ xs → sz x ≤ k) → szs xs ≤ xs.length * k
  | [], _ => Nat.zero_le _
  | x :: xs, h => by
    have h1 := h x (List.mem_cons_self ..)
    have h2 := szs_le (xs := xs) fun y hy => h y (List.mem_cons_of_mem _ hy)
    show sz x + szs xs ≤ (xs.length + 1) * k
    rw [Nat.succ_mul]
    omega
theorem sz_dV {v : List Rat} : sz (dV v) ≤ v.length * 3 + 1 := by
  have := szs_le (k := 3) (xs := v.map dQ) fun x hx => by
    obtain ⟨q, _, rfl⟩ := List.mem_map.mp hx
    exact Nat.le_refl _
  rw [List.length_map] at this
  show szs (v.map dQ) + 1 ≤ _
  omega
section
variable {a : Addr} {d : Nat} {rows : List Row} {p : List Rat}
theorem Lns.pt (h : Lns d rows) (hp : smV 775 p) : Pt 60 775 rows p where
  f r hr := by
    have := (h.f r hr).2
    have := h.d3
    refine ⟨(h.f r hr).1, by omega, ?_⟩
    unfold bw
    have : (r.2.length - 1) * (60 + 775 + 1) ≤ 3 * (60 + 775 + 1) := Nat.mul_le_mul_right _ (by omega)
    omega
  p := hp
  mn := by decide
  ne := h.ne
theorem Lns.own (h : Lns d rows) {r : Row} (hr : r ∈ rows) : ∃ rest, (rows.filter fun r' => decide (r'.1 = r.1)) = r :: rest := by
  have hm : r ∈ rows.filter fun r' => decide (r'.1 = r.1) := List.mem_filter.mpr ⟨hr, decide_eq_true rfl⟩
  cases e : rows.filter fun r' => decide (r'.1 = r.1) with
  | nil => rw [e] at hm; cases hm
  | cons r0 rest =>
    have h0 : r0 ∈ rows.filter fun r' => decide (r'.1 = r.1) := by rw [e]; exact List.mem_cons_self ..
    obtain ⟨a1, a2⟩ := List.mem_filter.mp h0
    have : r0 = r := h.uniq r0 r a1 hr (of_decide_eq_true a2)
    subst this
    exact ⟨rest, rfl⟩
def dueD (rows : List Row) (p : List Rat) : D := .tup ((chosenW rows p).map fun r => .str r.1)
theorem chosen_sub {r : Row} (h : r ∈ chosenW rows p) : r ∈ rows := (List.mem_filter.mp h).1
theorem chosen_len : (chosenW rows p).length ≤ rows.length := List.length_filter_le ..
theorem same_due (h : Lns d rows) : f_law_same [dueD rows p, dueD rows p] = pure (.bl true) := by
  have hm : ∀ x, x ∈ (chosenW rows p).map (fun r : Row => D.str r.1) → plainD x = true ∧ dep x = 0 ∧ sz x = 1 := fun x hx => by
    obtain ⟨r, hr, rfl⟩ := List.mem_map.mp hx
    obtain ⟨w, e, g⟩ := h.word (chosen_sub hr)
    rw [e]
    exact ⟨plain_S g, rfl, rfl⟩
  have l6 := h.l6
  have cl := chosen_len (rows := rows) (p := p)
  refine same_val (plainDs_of fun x hx => (hm x hx).1) ?_ ?_
  · show deps _ + 1 ≤ 50
    have : deps ((chosenW rows p).map (fun r : Row => D.str r.1)) ≤ 0 := deps_of fun x hx => Nat.le_of_eq (hm x hx).2.1
    omega
  · show szs _ + 1 ≤ 900
    have := szs_le (k := 1) (xs := (chosenW rows p).map (fun r : Row => D.str r.1)) fun x hx => Nat.le_of_eq (hm x hx).2.2
    rw [List.length_map] at this
    omega
def limD (rows : List Row) (r : Row) : D := .tup ((limitsQ rows r.1 r.2).map dLim)
theorem lim_mem (h : Lns d rows) {r : Row} (hr : r ∈ rows) {l : List Rat × Rat} (hl : l ∈ limitsQ rows r.1 r.2) : smV 121 l.1 ∧ sm 121 l.2 ∧ l.1.length = d := by
  obtain ⟨r', hr', rfl⟩ := List.mem_map.mp hl
  have hr' := (List.mem_filter.mp hr').1
  obtain ⟨s1, l1⟩ := h.f r hr
  obtain ⟨s2, l2⟩ := h.f r' hr'
  refine ⟨sub_sm (smV_drop s1) (smV_drop s2), sm_sub (smV_last s2 (by omega)) (smV_last s1 (by omega)), ?_⟩
  show (subQ r.2.dropLast r'.2.dropLast).length = d
  unfold subQ
  rw [List.length_map, List.length_zip, List.length_dropLast, List.length_dropLast]
  omega
theorem lim_len {w : Str} {own : List Rat} : (limitsQ rows w own).length ≤ rows.length := by
  unfold limitsQ
  rw [List.length_map]
  exact List.length_filter_le ..
theorem plain_dLim {l : List Rat × Rat} (h1 : smV 121 l.1) (h2 : sm 121 l.2) : plainD (dLim l) = true := by
  show (plainD (dV l.1) && (plainD (dQ l.2) && true)) = true
  rw [plain_dV h1 (by decide), plain_dQ h2 (by decide)] <;> rfl
theorem same_region (h : Lns d rows) {r : Row} (hr : r ∈ rows) : f_law_same [.tup [.str "polyhedron", .int (d : Int), limD rows r], .tup [.str "polyhedron", .int (d : Int), limD rows r]] = pure (.bl true) := by
  have l6 := h.l6
  have d3 := h.d3
  have ll := lim_len (rows := rows) (w := r.1) (own := r.2)
  have hm : ∀ x, x ∈ (limitsQ rows r.1 r.2).map dLim → plainD x = true ∧ dep x ≤ 3 ∧ sz x ≤ 14 := fun x hx => by
    obtain ⟨l, hl, rfl⟩ := List.mem_map.mp hx
    obtain ⟨h1, h2, h3⟩ := lim_mem h hr hl
    refine ⟨plain_dLim h1 h2, ?_, ?_⟩
    · have := dep_dV l.1
      show max (dep (dV l.1)) (max 1 0) + 1 ≤ 3
      omega
    · have := sz_dV (v := l.1)
      show sz (dV l.1) + (3 + 0) + 1 ≤ 14
      omega
  refine same_val ?_ ?_ ?_
  · show (plainD (.str "polyhedron") && (plainD (.int (d : Int)) && (plainD (limD rows r) && true))) = true
    have e1 : plainD (.str "polyhedron") = true := by decide +kernel
    have e2 : plainD (.int (d : Int)) = true := decide_eq_true (Nat.lt_of_lt_of_le (show (d : Int).natAbs < 2 ^ 2 by rw [Int.natAbs_natCast]; omega) (Nat.pow_le_pow_right (by decide) (by decide)))
    have e3 : plainD (limD rows r) = true := plainDs_of fun x hx => (hm x hx).1
    rw [e1, e2, e3] <;> rfl
  · show max 0 (max 0 (max (deps ((limitsQ rows r.1 r.2).map dLim) + 1) 0)) + 1 ≤ 50
    have : deps ((limitsQ rows r.1 r.2).map dLim) ≤ 3 := deps_of fun x hx => (hm x hx).2.1
    omega
  · show 1 + (1 + ((szs ((limitsQ rows r.1 r.2).map dLim) + 1) + 0)) + 1 ≤ 900
    have := szs_le (k := 14) (xs := (limitsQ rows r.1 r.2).map dLim) fun x hx => (hm x hx).2.2
    rw [List.length_map] at this
    omega
theorem keep_val (h : Lns d rows) {r : Row} (hr : r ∈ rows) (hp : smV 775 p) (hl : p.length = d) : f_law_ph_keeps [limD rows r, dV p] = pure (.bl (decide (r.1 ∈ (chosenW rows p).map (·.1)))) := by
  rw [← keep_due h.uniq hr (fun r' hr' => by rw [(h.f r' hr').2, (h.f r hr).2])]
  refine keeps_val (m := 121) (n := 775) (fun l hl => ⟨(lim_mem h hr hl).1, (lim_mem h hr hl).2.1⟩) hp (fun l hl => ?_) (by decide)
  have d3 := h.d3
  have := (lim_mem h hr hl).2.2
  have : (prodQ l.1 p).length ≤ 3 := by rw [prod_len]; omega
  exact Nat.le_trans (Nat.add_le_add_left (Nat.mul_le_mul_right _ this) _) (by decide)
theorem pI_val (h : Lns d rows) {r : Row} (hr : r ∈ rows) (hp : smV 775 p) (hl : p.length = d) {y3 y8 : Sl} :
    seqM pI1 (seqM pI2 sNx) [.dat (.ptr a), .dat (dLn rows), .dat (.int (d : Int)), y3, .dat (dV p), .dat (dueD rows p), .dat (.str r.1), .dat (dV r.2), y8] =
      pure (.nx, [.dat (.ptr a), .dat (dLn rows), .dat (.int (d : Int)), y3, .dat (dV p), .dat (dueD rows p), .dat (.str r.1), .dat (dV r.2), .dat (limD rows r)]) := by
  obtain ⟨w, e, g⟩ := h.word hr
  obtain ⟨rest, h0⟩ := h.own hr
  have ow : okS r.1 := by rw [e]; exact gw_okS g
  have k1 : f_law_ln_limits [dLn rows, .str r.1] = pure (limD rows r) := llimits_val h.rw_ ow h0
  have hpl : f_places_of_lines [dLn rows] = pure (.int (d : Int)) := by
    cases rows with
    | nil => exact absurd rfl h.ne
    | cons r0 rs =>
      rw [places_val, (h.f r0 (List.mem_cons_self ..)).2]
      congr 2
      omega
  have k2 : f_region [dLn rows, .str r.1] = pure (.tup [.str "polyhedron", .int (d : Int), limD rows r]) := region_val h.rw_ h.nice h.isLn (by rw [e]; exact plain_nice _ (plain_S g)) (by rw [e]; exact isWd_S g) hpl h0
  have k3 := same_region h hr
  have k4 := keep_val h hr hp hl
  have k5 := in_tup r.1 ((chosenW rows p).map (·.1))
  have e5 : dueD rows p = .tup (((chosenW rows p).map (·.1)).map D.str) := by unfold dueD; rw [List.map_map] <;> rfl
  rw [← e5] at k5
  have k6 : cmF .NotEq (.bl (decide (r.1 ∈ (chosenW rows p).map (·.1)))) (.bl (decide (r.1 ∈ (chosenW rows p).map (·.1)))) = pure (.bl false) := by
    cases decide (r.1 ∈ (chosenW rows p).map (·.1)) <;> rfl
  have k7 : kwRun 1 1 [0, 1] f_region [dLn rows] [.str r.1] = f_region [dLn rows, .str r.1] := rfl
  unfold pI1 pI2
  simp [-List.map_map, -List.mem_map, u_seqM, k1]
  rw [k7, k2, pb, k3, pb, tru_bl, pb, if_neg (by decide), k4, pb, k5, pb, k6, pb, toB_bl, pb, if_neg (by decide)]
theorem tr_body (h : Lns d rows) {y3 y4 y5 y6 y7 y8 : Sl} : Tr a 40 (seqM pB1 (seqM pB2 (seqM pB3 (seqM (sFor (asgT 2 (asgCons (asgN 6) (asgCons (asgN 7) asgNil))) (seqI (ixE (eV 1) (eC (.int 1)))) (seqM pI1 (seqM pI2 sNx))) sNx))) [.dat (.ptr a), .dat (dLn rows), .dat (.int (d : Int)), y3, y4, y5, y6, y7, y8])
    fun r => r.1 = .nx ∧ ∃ z4 z5 z6 z7 z8, r.2 = [.dat (.ptr a), .dat (dLn rows), .dat (.int (d : Int)), y3, z4, z5, z6, z7, z8] := by
  refine Tr.seq (n1 := 40) (n2 := 0) (P := fun r => r.1 = .nx ∧ ∃ p, r.2 = [.dat (.ptr a), .dat (dLn rows), .dat (.int (d : Int)), y3, .dat (dV p), y5, y6, y7, y8] ∧ p.length = d ∧ smV 775 p) ?_ fun r hr => ⟨hr.1, ?_⟩
  · unfold pB1
    simp
    refine Tr.bind (n1 := 40) (n2 := 0) (tr_meeting h) fun x ⟨p, e, lp, sp⟩ => ?_
    subst e
    exact Tr.pure ⟨rfl, p, rfl, lp, sp⟩
  · obtain ⟨_, p, e, lp, sp⟩ := hr
    rw [e]
    obtain ⟨r0, rest, rfl⟩ : ∃ r0 rest, rows = r0 :: rest := by
      cases rows with
      | nil => exact absurd rfl h.ne
      | cons r0 rest => exact ⟨r0, rest, rfl⟩
    have l0 := (h.f r0 (List.mem_cons_self ..)).2
    have d1 := h.d1
    have d3 := h.d3
    have P := h.pt sp
    have q2 : f_law_ln_chosen [dLn (r0 :: rest), dV p] = pure (dueD (r0 :: rest) p) := lc_val P (Nat.le_trans h.l6 (by decide))
    have q3 : f_chosen [dLn (r0 :: rest), dV p] = pure (dueD (r0 :: rest) p) := chosen_val h.nice h.isLn (plain_nice _ (plain_dV sp (by decide))) (isVec_dV (by omega) (by omega)) (by omega) (by omega) P
    have q4 := same_due (p := p) h
    have q5 : kwRun 0 2 [1, 0] f_chosen [] [dV p, dLn (r0 :: rest)] = f_chosen [dLn (r0 :: rest), dV p] := rfl
    have e2 : ∀ y4, pB2 [.dat (.ptr a), .dat (dLn (r0 :: rest)), .dat (.int (d : Int)), y4, .dat (dV p), y5, y6, y7, y8] = pure (.nx, [.dat (.ptr a), .dat (dLn (r0 :: rest)), .dat (.int (d : Int)), y4, .dat (dV p), .dat (dueD (r0 :: rest) p), y6, y7, y8]) := fun y4 => by
      unfold pB2
      simp [q2]
    have e3 : ∀ y4, pB3 [.dat (.ptr a), .dat (dLn (r0 :: rest)), .dat (.int (d : Int)), y4, .dat (dV p), .dat (dueD (r0 :: rest) p), y6, y7, y8] = pure (.nx, [.dat (.ptr a), .dat (dLn (r0 :: rest)), .dat (.int (d : Int)), y4, .dat (dV p), .dat (dueD (r0 :: rest) p), y6, y7, y8]) := fun y4 => by
      unfold pB3
      simp [q5, q3, q4]
    rw [seq_pure (e2 _), seq_pure (e3 _)]
    obtain ⟨env', e4, z6, z7, z8, e5⟩ := for_ok (ft := asgT 2 (asgCons (asgN 6) (asgCons (asgN 7) asgNil))) (body := seqM pI1 (seqM pI2 sNx)) (ds := (r0 :: rest).map dRow) (fun i env => ∃ y6 y7 y8, env = [.dat (.ptr a), .dat (dLn (r0 :: rest)), .dat (.int (d : Int)), y3, .dat (dV p), .dat (dueD (r0 :: rest) p), y6, y7, y8]) (fun i x env hx hi => by
      obtain ⟨y6, y7, y8, rfl⟩ := hi
      obtain ⟨r, hr, rfl⟩ := List.mem_map.mp (List.mem_of_getElem? hx)
      exact ⟨_, _, rfl, pI_val h hr sp lp, _, _, _, rfl⟩) [.dat (.ptr a), .dat (dLn (r0 :: rest)), .dat (.int (d : Int)), y3, .dat (dV p), .dat (dueD (r0 :: rest) p), y6, y7, y8] ⟨y6, y7, y8, rfl⟩
    have e6 : sFor (asgT 2 (asgCons (asgN 6) (asgCons (asgN 7) asgNil))) (seqI (ixE (eV 1) (eC (.int 1)))) (seqM pI1 (seqM pI2 sNx)) [.dat (.ptr a), .dat (dLn (r0 :: rest)), .dat (.int (d : Int)), y3, .dat (dV p), .dat (dueD (r0 :: rest) p), y6, y7, y8] = pure (.nx, env') := by
      have i1 : ixD (dLn (r0 :: rest)) (.int 1) = pure (dRows (r0 :: rest)) := rfl
      rw [u_sFor]
      simp [-List.map_cons, i1]
      exact e4
    rw [seq_pure e6]
    exact Tr.pure ⟨rfl, _, _, z6, z7, z8, e5⟩
theorem tr_right (h : Lns d rows) : Tr a 160 (f_law_points_right [.ptr a, dLn rows]) fun x => x = .bl true := by
  have hB : (seqM (sSet 4 (callE (runN 2 f_law_meeting) (eCons (eV 0) (eCons (eV 1) eNil)))) (seqM (sSet 5 (callE (runN 2 f_law_ln_chosen) (eCons (eV 1) (eCons (eV 4) eNil)))) (seqM (iteM (notT (truT (callE (runN 2 f_law_same) (eCons (kw0E 2 [1, 0] f_chosen (eCons (eV 4) (eCons (eV 1) eNil))) (eCons (eV 5) eNil))))) (seqM (sRt (eC (.bl false))) sNx) sNx) (seqM (sFor (asgT 2 (asgCons (asgN 6) (asgCons (asgN 7) asgNil))) (seqI (ixE (eV 1) (eC (.int 1)))) (seqM (sSet 8 (callE (runN 2 f_law_ln_limits) (eCons (eV 1) (eCons (eV 6) eNil)))) (seqM (iteM (tOr (notT (truT (callE (runN 2 f_law_same) (eCons (kwE 1 1 [0, 1] f_region (eCons (eV 1) eNil) (eCons (eV 6) eNil)) (eCons (tupE (eCons (eC (.str "polyhedron")) (eCons (eV 2) (eCons (eV 8) eNil)))) eNil))))) (tstB (cmE .NotEq (callE (runN 2 f_law_ph_keeps) (eCons (eV 8) (eCons (eV 4) eNil))) (cmE .In (eV 6) (eV 5))))) (seqM (sRt (eC (.bl false))) sNx) sNx) sNx))) sNx)))) = seqM pB1 (seqM pB2 (seqM pB3 (seqM (sFor (asgT 2 (asgCons (asgN 6) (asgCons (asgN 7) asgNil))) (seqI (ixE (eV 1) (eC (.int 1)))) (seqM pI1 (seqM pI2 sNx))) sNx))) := rfl
  rw [c_law_points_right, hB]
  obtain ⟨r0, rest, rfl⟩ : ∃ r0 rest, rows = r0 :: rest := by
    cases rows with
    | nil => exact absurd rfl h.ne
    | cons r0 rest => exact ⟨r0, rest, rfl⟩
  have l0 := (h.f r0 (List.mem_cons_self ..)).2
  have i1 : ixD (dLn (r0 :: rest)) (.int 1) = pure (dRows (r0 :: rest)) := rfl
  have i2 : ixD (dRows (r0 :: rest)) (.int 0) = pure (dRow r0) := ixt_nat _ 0
  have i3 : ixD (dRow r0) (.int 1) = pure (dV r0.2) := rfl
  have i4 : lenD [dV r0.2] = pure (.int ((d + 1 : Nat) : Int)) := by
    show (pure (.int ((r0.2.map dQ).length : Int)) : Mo D) = _
    rw [List.length_map, l0]
  have ed : ((d + 1 : Nat) : Int) - 1 = (d : Int) := by omega
  have r4 : rngD 1 [.int 4] = pure ((List.range 4).map fun i : Nat => D.int (i : Int)) := rng_i 4 (by decide)
  refine Tr.runB ?_
  show Tr a 160 (seqM _ _ [.dat (.ptr a), .dat (dLn (r0 :: rest)), .un, .un, .un, .un, .un, .un, .un]) _
  rw [seq_pure (env' := [.dat (.ptr a), .dat (dLn (r0 :: rest)), .dat (.int (d : Int)), .un, .un, .un, .un, .un, .un]) (by
    simp
    rw [i2, pb, i3, pb, i4, pb, sub_ii, ed, pb] <;> rfl)]
  refine Tr.seq (n1 := 160) (n2 := 0) (P := fun r => r.1 = .nx ∧ ∃ y3 y4 y5 y6 y7 y8, r.2 = [.dat (.ptr a), .dat (dLn (r0 :: rest)), .dat (.int (d : Int)), y3, y4, y5, y6, y7, y8]) ?_ fun r hr => ⟨hr.1, ?_⟩
  · rw [u_sFor]
    simp [-List.map_cons, r4]
    refine (Tr.for_ (n := 40) (ds := (List.range 4).map fun i : Nat => D.int (i : Int)) (I := fun i env => ∃ y3 y4 y5 y6 y7 y8, env = [.dat (.ptr a), .dat (dLn (r0 :: rest)), .dat (.int (d : Int)), y3, y4, y5, y6, y7, y8]) (fun i x env hx hi => ?_) _ ⟨.un, .un, .un, .un, .un, .un, rfl⟩).mono (by simp) fun _ h => h
    obtain ⟨y3, y4, y5, y6, y7, y8, rfl⟩ := hi
    exact ⟨_, rfl, (tr_body h (y3 := .dat x)).mono (Nat.le_refl _) fun r ⟨r1, z4, z5, z6, z7, z8, e⟩ => ⟨r1, _, z4, z5, z6, z7, z8, e⟩⟩
  · obtain ⟨_, y3, y4, y5, y6, y7, y8, e⟩ := hr
    rw [e]
    simp [u_seqM]
    exact Tr.pure rfl
end
end TP
end
end

-- text TpQ
section
set_option maxHeartbeats 4000000
set_option autoImplicit false
namespace TP
open PySem PySem.Spec L2 TL
/-! ### wrong values are refused -/
theorem caught_val {exs : List Str} {c : Str} {f : Ev → Mo D} {env : Ev} (h : f env = Mo.raise c) (hc : c ∈ exs) : caughtE exs c f env = pure (.bl true) := by
  funext g
  unfold caughtE
  rw [h]
  show (if c = c ∧ c ∈ exs then Res.ok (D.bl true) g else .stuck) = _
  rw [if_pos ⟨rfl, hc⟩] <;> rfl
section
variable {a : Addr} {d : Nat} {rows : List Row}
theorem tr_refused (h : Lns d rows) {near : D} (hn : nice near = true) : Tr a 2 (f_law_refused [.ptr a, dLn rows, near]) fun x => x = .bl true := by
  obtain ⟨r0, rest, rfl⟩ : ∃ r0 rest, rows = r0 :: rest := by
    cases rows with
    | nil => exact absurd rfl h.ne
    | cons r0 rest => exact ⟨r0, rest, rfl⟩
  have l0 := (h.f r0 (List.mem_cons_self ..)).2
  have d1 := h.d1
  have d3 := h.d3
  have i1 : ixD (dLn (r0 :: rest)) (.int 1) = pure (dRows (r0 :: rest)) := rfl
  have i2 : ixD (dRows (r0 :: rest)) (.int 0) = pure (dRow r0) := ixt_nat _ 0
  have i3 : ixD (dRow r0) (.int 1) = pure (dV r0.2) := rfl
  have i4 : lenD [dV r0.2] = pure (.int ((d + 1 : Nat) : Int)) := by
    show (pure (.int ((r0.2.map dQ).length : Int)) : Mo D) = _
    rw [List.length_map, l0]
  have ed : ((d + 1 : Nat) : Int) - 1 = (d : Int) := by omega
  rw [c_law_refused]
  refine Tr.runB ?_
  show Tr a 2 (seqM _ _ [.dat (.ptr a), .dat (dLn (r0 :: rest)), .dat near, .un, .un, .un, .un, .un, .un]) _
  rw [seq_pure (env' := [.dat (.ptr a), .dat (dLn (r0 :: rest)), .dat near, .dat (.int (d : Int)), .dat (.lst ((r0 :: rest).map fun r : Row => D.str r.1)), .un, .un, .un, .un]) (by
    simp
    rw [i2, pb, i3, pb, i4, pb, sub_ii, ed, pb, ← List.map_cons (f := dRow), comp_map (f := fun r : Row => D.str r.1) (fun r hr => by
      have i0 : ixD (dRow r) (.int 0) = pure (.str r.1) := rfl
      simp [wipeE, i0]), pb] <;> rfl)]
  have zt : nice (.tup [.int 0, .int 1]) = true := by decide +kernel
  have nz : nices (List.replicate d (D.tup [.int 0, .int 1])) = true := nices_rep zt d
  have e6 := mul_tup1 (y := .tup [.int 0, .int 1]) (k := d) d1 (by omega)
  rw [seq_pure (env' := [.dat (.ptr a), .dat (dLn (r0 :: rest)), .dat near, .dat (.int (d : Int)), .dat (.lst ((r0 :: rest).map fun r : Row => D.str r.1)), .un, .dat (.tup (List.replicate d (.tup [.int 0, .int 1]))), .un, .un]) (by
    simp
    rw [e6, pb] <;> rfl)]
  refine Tr.seq (n1 := 1) (n2 := 1) (P := fun r => r.1 = .nx ∧ ∃ o, r.2 = [.dat (.ptr a), .dat (dLn (r0 :: rest)), .dat near, .dat (.int (d : Int)), .dat (.lst ((r0 :: rest).map fun r : Row => D.str r.1)), .un, .dat (.tup (List.replicate d (.tup [.int 0, .int 1]))), .dat o, .un] ∧ nice o = true ∧ isVecN d o = false) ?_ fun r hr => ⟨hr.1, ?_⟩
  · have f1 := mul_tup1 (y := .tup [.int 2, .int 4]) (k := d) d1 (by omega)
    have f2 := mul_tup1 (y := .int 0) (k := d) d1 (by omega)
    have f3 : listD [.tup (List.replicate d (D.tup [.int 0, .int 1]))] = pure (.lst (List.replicate d (.tup [.int 0, .int 1]))) := rfl
    have f4 : addD (.tup (List.replicate d (D.tup [.int 0, .int 1]))) (.tup [.tup [.int 0, .int 1]]) = pure (.tup (List.replicate d (.tup [.int 0, .int 1]) ++ [.tup [.int 0, .int 1]])) := add_tup (by rw [List.length_replicate]; show d + 1 ≤ 1000; omega)
    simp
    rw [f3, pb, f4, pb, f1, pb, f2, pb, mkLst_ok (by simp), pb]
    refine Tr.bind (n1 := 1) (n2 := 0) (Tr.pick (by simp) (by simp)) fun o ho => Tr.pure ⟨rfl, o, rfl, ?_⟩
    obtain ⟨dd, rfl⟩ : ∃ dd, d = dd + 1 := ⟨d - 1, by omega⟩
    simp only [List.mem_cons, List.not_mem_nil, or_false] at ho
    rcases ho with rfl | rfl | rfl | rfl | rfl | rfl
    · exact ⟨rfl, rfl⟩
    · exact ⟨nz, rfl⟩
    · refine ⟨nices_app nz (by decide +kernel), ?_⟩
      show (decide ((List.replicate (dd + 1) (D.tup [.int 0, .int 1]) ++ [D.tup [.int 0, .int 1]]).length = dd + 1) && _) = false
      rw [decide_eq_false (by rw [List.length_append, List.length_replicate]; show dd + 1 + 1 ≠ _; omega)] <;> rfl
    · refine ⟨nices_rep (by decide +kernel) _, ?_⟩
      show (decide _ && List.all (List.replicate (dd + 1) (D.tup [.int 2, .int 4])) isRat) = false
      rw [List.replicate_succ, List.all_cons, show isRat (.tup [.int 2, .int 4]) = false by decide +kernel, Bool.false_and, Bool.and_false]
    · refine ⟨nices_rep (by decide +kernel) _, ?_⟩
      show (decide _ && List.all (List.replicate (dd + 1) (D.int 0)) isRat) = false
      rw [List.replicate_succ, List.all_cons, show isRat (.int 0) = false from rfl, Bool.false_and, Bool.and_false]
    · exact ⟨rfl, rfl⟩
  obtain ⟨_, o, e, no, vo⟩ := hr
  rw [e]
  refine Tr.seq (n1 := 1) (n2 := 0) (P := fun r => r.1 = .nx ∧ ∃ ab, r.2 = [.dat (.ptr a), .dat (dLn (r0 :: rest)), .dat near, .dat (.int (d : Int)), .dat (.lst ((r0 :: rest).map fun r : Row => D.str r.1)), .un, .dat (.tup (List.replicate d (.tup [.int 0, .int 1]))), .dat o, .dat ab] ∧ nice ab = true ∧ isWd ab = false) ?_ fun r hr => ⟨hr.1, ?_⟩
  · have f1 : multD (.str "a") (.int 9) = pure (.str (repS "a" 9)) := by
      show (if 0 ≤ (9 : Int) ∧ (9 : Int) ≤ 1000 ∧ (("a" : Str)).length ≤ 1000 then (pure (.str (repS "a" 9)) : Mo D) else Mo.fail) = _
      rw [if_pos ⟨by decide, by decide, by decide +kernel⟩]
    have f2 : ixD (.lst ((r0 :: rest).map fun r : Row => D.str r.1)) (.int 0) = pure (.str r0.1) := ixl_nat _ 0
    obtain ⟨w, ew, g⟩ := h.word (List.mem_cons_self (a := r0) (l := rest))
    simp [-List.map_cons]
    rw [f2, pb, f1, pb, mkLst_ok (by simp), pb]
    refine Tr.bind (n1 := 1) (n2 := 0) (Tr.pick (by simp) (by simp)) fun ab hab => Tr.pure ⟨rfl, ab, rfl, ?_⟩
    simp only [List.mem_cons, List.not_mem_nil, or_false] at hab
    rcases hab with rfl | rfl | rfl | rfl | rfl | rfl
    · exact ⟨rfl, rfl⟩
    · exact ⟨by decide +kernel, by decide +kernel⟩
    · exact ⟨by decide +kernel, rfl⟩
    · exact ⟨by decide +kernel, by decide +kernel⟩
    · refine ⟨nices_of fun x hx => ?_, rfl⟩
      rw [List.mem_singleton.mp hx, ew]
      exact plain_nice _ (plain_S g)
    · exact ⟨by decide +kernel, by decide +kernel⟩
  obtain ⟨_, ab, e, nab, wab⟩ := hr
  rw [e]
  have c1 : f_chosen [dLn (r0 :: rest), o] = Mo.raise "BadPoint" := chosen_point h.nice h.isLn no (by rw [l0]; exact vo)
  have c2 : f_region [dLn (r0 :: rest), ab] = Mo.raise "BadWord" := region_word h.nice h.isLn nab wab
  have g1 : ∀ {f : Ev → Mo D} {env : Ev} {A : Ev → Mo (Fl × Ev)}, f env = pure (.bl true) → iteM (notT (truT f)) A sNx env = pure (.nx, env) := fun hf => by simp [hf]
  rw [seq_pure (g1 (caught_val (by simp [c1]) (by simp))), seq_pure (g1 (caught_val (by simp [c2]) (by simp)))]
  by_cases hl : isLn near = true
  · simp [u_seqM, llines_val hn, hl]
    exact Tr.pure rfl
  · have hl : isLn near = false := by simpa using hl
    have c3 : f_chosen [near, .non] = Mo.raise "BadLines" := chosen_bad hn hl
    have c4 : f_region [near, .non] = Mo.raise "BadLines" := region_bad hn hl
    rw [seq_pure (env' := [.dat (.ptr a), .dat (dLn (r0 :: rest)), .dat near, .dat (.int (d : Int)), .dat (.lst ((r0 :: rest).map fun r : Row => D.str r.1)), .un, .dat (.tup (List.replicate d (.tup [.int 0, .int 1]))), .dat o, .dat ab]) (by simp [llines_val hn, hl])]
    rw [seq_pure (g1 (caught_val (by simp [c3]) (by simp)))]
    refine Tr.seq_ret ?_
    rw [u_sRt, caught_val (by simp [c4]) (by simp), pb]
    exact Tr.pure ⟨_, rfl, rfl⟩
end
end TP
end

-- text K13
section
set_option maxHeartbeats 4000000
set_option autoImplicit false
namespace K90
open PySem PySem.Spec L2 TL TP
/-! ### the law holds over data -/
theorem truth_val (b : Bool) : f_law_is_truth [.bl b, .bl b] = pure (.bl true) := by
  rw [c_law_is_truth, u_runB]
  have e1 : cmF .Is (.bl true) (.bl true) = pure (.bl true) := rfl
  have e2 : cmF .Is (.bl false) (.bl false) = pure (.bl true) := rfl
  cases b <;> simp [u_seqM, envOf, e1, e2]
section
variable {a : Addr} {ns : List Int}
theorem tr_lap {y2 y3 y4 : Sl} : Tr a (2 ^ 103) (lapB [.dat (.scr ns), .dat (.ptr a), y2, y3, y4]) fun r => r.1 = .nx ∧ ∃ z3 z4, r.2 = [.dat (.scr ns), .dat (.ptr a), y2, z3, z4] := by
  unfold lapB
  refine (Tr.seq (n1 := 2 ^ 102) (n2 := 2 ^ 101) (P := fun r => r.1 = .nx ∧ ∃ d rows, r.2 = [.dat (.scr ns), .dat (.ptr a), y2, .dat (dLn rows), y4] ∧ Lns d rows) ?_ fun r hr => ⟨hr.1, ?_⟩).mono (by decide) fun _ h => h
  · simp
    refine Tr.bind (n1 := 2 ^ 102) (n2 := 0) tr_lines fun x ⟨d, rows, e, h⟩ => ?_
    subst e
    exact Tr.pure ⟨rfl, _, _, rfl, h⟩
  obtain ⟨_, d, rows, e, h⟩ := hr
  rw [e]
  refine (Tr.seq (n1 := 40) (n2 := 200) (P := fun r => r.1 = .nx ∧ ∃ near, r.2 = [.dat (.scr ns), .dat (.ptr a), y2, .dat (dLn rows), .dat near] ∧ nice near = true) ?_ fun r hr => ⟨hr.1, ?_⟩).mono (by decide) fun _ h => h
  · simp
    refine Tr.bind (n1 := 40) (n2 := 0) (tr_near h) fun x hx => Tr.pure ⟨rfl, x, rfl, hx⟩
  obtain ⟨_, near, e, hn⟩ := hr
  rw [e]
  have k1 : kwRun 0 1 [0] f_is_lines [] [near] = f_is_lines [near] := rfl
  rw [seq_pure (env' := [.dat (.scr ns), .dat (.ptr a), y2, .dat (dLn rows), .dat near]) (by
    simp [lines_val h.nice, h.isLn, truth_val, k1, lines_val hn, llines_val hn])]
  simp [u_seqM]
  refine Tr.bind (n1 := 160) (n2 := 40) (tr_right h) fun x hx => ?_
  subst hx
  rw [tru_bl, pb, if_neg (by decide)]
  refine Tr.bind (n1 := 2) (n2 := 38) (tr_refused h hn) fun x hx => ?_
  subst hx
  rw [tru_bl, pb, if_neg (by decide)]
  exact Tr.pure ⟨rfl, _, _, rfl⟩
end
theorem began_ok (a ag ac : Addr) (ns : List Int) (h : ns.length ≤ 63) : Ok1 a (beganT a ag ac ns) where
  a := rfl
  cl := by show (cellsOf ns).length < 64; unfold cellsOf; rw [List.length_map]; omega
  g := by
    show (greatOf ns).length ≤ 1000
    unfold greatOf
    exact Nat.le_trans (List.length_filterMap_le ..) (by omega)
  r0 := Int.le_refl _
  gr x hx := by
    obtain ⟨n, hn, e⟩ := List.mem_filterMap.mp (show x ∈ greatOf ns from hx)
    split at e
    · cases e; omega
    · cases e
  t0 := Int.le_refl _
theorem claim : Claim := by
  intro ns a ag ac h
  have hl : lenD [.scr ns] = pure (.int (ns.length : Int)) := rfl
  have hm : min2D [.int (ns.length : Int), .int 8] = pure (.int ((min ns.length 8 : Nat) : Int)) := by
    show (pure (.int (if (8 : Int) < (ns.length : Int) then 8 else (ns.length : Int))) : Mo D) = _
    congr 2
    split <;> omega
  have e10 : (10 : Int) + ((min ns.length 8 : Nat) : Int) = ((10 + min ns.length 8 : Nat) : Int) := by omega
  have hr := rng_i (10 + min ns.length 8) (by omega)
  have tr : Tr a (18 * 2 ^ 103) (lawB [.dat (.scr ns), .dat (.ptr a), .un, .un, .un]) fun r => r.1 = .ret (.bl true) := by
    unfold lawB
    refine Tr.seq (n1 := 18 * 2 ^ 103) (n2 := 0) (P := fun r => r.1 = .nx ∧ ∃ z2 z3 z4, r.2 = [.dat (.scr ns), .dat (.ptr a), z2, z3, z4]) ?_ fun r hr => ⟨hr.1, ?_⟩
    · rw [u_sFor]
      simp only [u_rngI, u_eCons, u_eO, u_eC, u_callE, u_eV, u_eNil, gs_zero, gs_succ, mo_some, mo_assoc, mo_pure_bind, hl, hm, add_ii, e10, hr]
      refine (Tr.for_ (n := 2 ^ 103) (ds := (List.range (10 + min ns.length 8)).map fun i : Nat => D.int (i : Int)) (I := fun i env => ∃ z2 z3 z4, env = [.dat (.scr ns), .dat (.ptr a), z2, z3, z4]) (fun i x env hx hi => ?_) _ ⟨.un, .un, .un, rfl⟩).mono (Nat.mul_le_mul_right _ (by rw [List.length_map, List.length_range]; omega)) fun _ h => h
      obtain ⟨z2, z3, z4, rfl⟩ := hi
      exact ⟨_, rfl, (tr_lap (y2 := .dat x)).mono (Nat.le_refl _) fun r ⟨r1, z3, z4, e⟩ => ⟨r1, _, z3, z4, e⟩⟩
    · obtain ⟨_, z2, z3, z4, e⟩ := hr
      rw [e]
      simp [u_seqM]
      exact Tr.pure rfl
  obtain ⟨v, t', e, _, _, p⟩ := tr (beganT a ag ac ns) (began_ok a ag ac ns h) (by show (0 : Int) + _ < _; decide)
  obtain ⟨fl, env'⟩ := v
  dsimp only at p
  subst p
  exact ⟨env', some t', e⟩
end K90
end

-- text K14
section
set_option maxHeartbeats 4000000
set_option autoImplicit true
open PySem
theorem PySem.Challenge.cw_taughtloss_k90_lines_and_what_they_choos_holds : PySem.Challenge.rw_taughtloss_k90_lines_and_what_they_choos.Holds :=
  K90.all K90.claim
#print axioms PySem.Challenge.cw_taughtloss_k90_lines_and_what_they_choos_holds
end
