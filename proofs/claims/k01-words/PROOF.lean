import PyProof.Rows.All
import Wide.All
import OpenK.AllK
import Wide.FinOn
import HandS.Base
import HandS.Call
import HandS.List
import HandS.Comp
import HandS.Ends
import HandS.Dict
import HandS.Iter
import HandS.Text
import HandS.Exc
import HandS.ExcOwn
import HandS.Evl
import HandS.Walk
import HandS.ExcValue
import HandS.ExcIs
import HandS.IsInst
import HandS.Words
import HandS.WordsList
import HandS.WordsExc
import HandS.Defaults
import HandS.EndBits
import HandS.RaiseMore
import HandS.More
import HandS.Head0
import HandS.Head1
import HandS.Head2
import HandS.HeadEnd
import HandS.HeadHook1
import HandS.HeadHook2
import HandS.HeadHook3
import HandS.HeadHook4
import PySem.Challenge.RW_wordmend_k01_words
set_option Elab.async false
set_option linter.all false
set_option maxRecDepth 100000
set_option maxHeartbeats 4000000
namespace Wm
open PySem PySem.Spec PyProof.Rows L2

/-! ### data -/
inductive D where
  | non | bl (b : Bool) | int (i : Int) | str (x : Str)
  | lst (xs : List D) | tup (xs : List D) | ins (C : Addr) (fs : List (Str × D)) | dk (kvs : List (Key × D))
  | exc (cls : Value) | raw (v : V) | scr (K : PySem.W.Frag) (ns : List Int)

/-- an exception object, kept as a value -/
def ExK (cls : Value) (a : Addr) : HO := .ext fun h => ∃ (oe : Obj) (vs : Array Value), h.get? a = some oe ∧ Zc cls none oe ∧ oe.data = .fields vs

mutual
inductive Tp (H : Hp) : V → D → Prop
  | non : Tp H .non .non
  | bl (b : Bool) : Tp H (.bl b) (.bl b)
  | int (i : Int) : Tp H (.int i) (.int i)
  | str (x : Str) : Tp H (.str x) (.str x)
  | raw (v : V) : Tp H v (.raw v)
  | lst {a : Addr} {xs : List V} {ds : List D} : H a = some (.lst xs) → TpA H xs ds → Tp H (.ref a) (.lst ds)
  | tup {a : Addr} {xs : List V} {ds : List D} : H a = some (.tup xs) → TpA H xs ds → Tp H (.ref a) (.tup ds)
  | ins {a C dx : Addr} {fs : List (Str × V)} {gs : List (Str × D)} : H a = some (.ins C dx fs) → TpF H fs gs → Tp H (.ref a) (.ins C gs)
  | dk {a : Addr} {kvs : List (Key × V)} {ds : List (Key × D)} : H a = some (.dK kvs) → TpK H kvs ds → Tp H (.ref a) (.dk ds)
  | exc {a : Addr} {cls : Value} : H a = some (ExK cls a) → Tp H (.ref a) (.exc cls)
  | scr {K : PySem.W.Frag} {a : Addr} {ns : List Int} : SqL K H a (ns.map V.int) → Tp H (.ref a) (.scr K ns)
inductive TpA (H : Hp) : List V → List D → Prop
  | nil : TpA H [] []
  | cons {v : V} {vs : List V} {d : D} {ds : List D} : Tp H v d → TpA H vs ds → TpA H (v :: vs) (d :: ds)
inductive TpF (H : Hp) : List (Str × V) → List (Str × D) → Prop
  | nil : TpF H [] []
  | cons {f : Str} {v : V} {vs : List (Str × V)} {d : D} {ds : List (Str × D)} : Tp H v d → TpF H vs ds → TpF H ((f, v) :: vs) ((f, d) :: ds)
inductive TpK (H : Hp) : List (Key × V) → List (Key × D) → Prop
  | nil : TpK H [] []
  | cons {f : Key} {v : V} {vs : List (Key × V)} {d : D} {ds : List (Key × D)} : Tp H v d → TpK H vs ds → TpK H ((f, v) :: vs) ((f, d) :: ds)
end

/-- what G does not hold may change -/
theorem _root_.Evl.Ex.out {G H : Hp} {p : Addr} {o : HO} (e : Evl.Ex G H) (h : G p = none) : Evl.Ex G (upd H p o) := fun a u ha => by
  rw [upd_ne (ne_of_none ha h)]
  exact e a u ha
theorem _root_.Evl.Ex.none {H H' : Hp} (e : Evl.Ex H H') {p : Addr} (h : H' p = Option.none) : H p = Option.none := by
  cases h1 : H p with
  | none => rfl
  | some o =>
    rw [e p o h1] at h
    cases h

theorem _root_.Evl.Ex.seq {K : PySem.W.Frag} {H H' : Hp} {a : Addr} {xs : List V} (e : Evl.Ex H H') (h : SqL K H a xs) : SqL K H' a xs := by
  rcases h with (h | ⟨o, h⟩) | h
  · exact .inl (.inl (e _ _ h))
  · exact .inl (.inr ⟨o, e _ _ h⟩)
  · exact .inr h
section
variable {H H' : Hp}
mutual
theorem Tp.mono (e : Evl.Ex H H') : ∀ {v : V} {d : D}, Tp H v d → Tp H' v d
  | _, _, .non => .non
  | _, _, .bl b => .bl b
  | _, _, .int i => .int i
  | _, _, .str x => .str x
  | _, _, .raw v => .raw v
  | _, _, .lst h t => .lst (e _ _ h) (TpA.mono e t)
  | _, _, .tup h t => .tup (e _ _ h) (TpA.mono e t)
  | _, _, .ins h t => .ins (e _ _ h) (TpF.mono e t)
  | _, _, .dk h t => .dk (e _ _ h) (TpK.mono e t)
  | _, _, .exc h => .exc (e _ _ h)
  | _, _, .scr h => .scr (e.seq h)
theorem TpA.mono (e : Evl.Ex H H') : ∀ {v : List V} {d : List D}, TpA H v d → TpA H' v d
  | _, _, .nil => .nil
  | _, _, .cons h t => .cons (Tp.mono e h) (TpA.mono e t)
theorem TpF.mono (e : Evl.Ex H H') : ∀ {v : List (Str × V)} {d : List (Str × D)}, TpF H v d → TpF H' v d
  | _, _, .nil => .nil
  | _, _, .cons h t => .cons (Tp.mono e h) (TpF.mono e t)
theorem TpK.mono (e : Evl.Ex H H') : ∀ {v : List (Key × V)} {d : List (Key × D)}, TpK H v d → TpK H' v d
  | _, _, .nil => .nil
  | _, _, .cons h t => .cons (Tp.mono e h) (TpK.mono e t)
end
end
section
variable {H H' : Hp}
theorem TpA.length : ∀ {vs : List V} {ds : List D}, TpA H vs ds → vs.length = ds.length
  | _, _, .nil => rfl
  | _, _, .cons _ t => congrArg Nat.succ (TpA.length t)
theorem TpA.get : ∀ {vs : List V} {ds : List D} {i : Nat} {d : D}, TpA H vs ds → ds[i]? = some d → ∃ v, vs[i]? = some v ∧ Tp H v d
  | _, _, _, _, .nil, e => by simp at e
  | _, _, 0, _, .cons h _, e => ⟨_, rfl, by simp at e; subst e; exact h⟩
  | _, _, i + 1, _, .cons _ t, e => by
    obtain ⟨v, h1, h2⟩ := TpA.get (i := i) t (by simpa using e)
    exact ⟨v, by simpa using h1, h2⟩
theorem TpA.get' : ∀ {vs : List V} {ds : List D} {i : Nat} {v : V}, TpA H vs ds → vs[i]? = some v → ∃ d, ds[i]? = some d ∧ Tp H v d
  | _, _, _, _, .nil, e => by simp at e
  | _, _, 0, _, .cons h _, e => ⟨_, rfl, by simp at e; subst e; exact h⟩
  | _, _, i + 1, _, .cons _ t, e => by
    obtain ⟨v, h1, h2⟩ := TpA.get' (i := i) t (by simpa using e)
    exact ⟨v, by simpa using h1, h2⟩
theorem TpA.append : ∀ {vs ws : List V} {ds es : List D}, TpA H vs ds → TpA H ws es → TpA H (vs ++ ws) (ds ++ es)
  | _, _, _, _, .nil, s => s
  | _, _, _, _, .cons h t, s => .cons h (TpA.append t s)
theorem TpA.one {v : V} {d : D} (h : Tp H v d) : TpA H [v] [d] := .cons h .nil
theorem TpA.set {v : V} {d : D} (r : Tp H v d) : ∀ {vs : List V} {ds : List D} (i : Nat), TpA H vs ds → TpA H (vs.set i v) (ds.set i d)
  | _, _, _, .nil => .nil
  | _, _, 0, .cons _ t => .cons r t
  | _, _, i + 1, .cons q t => .cons q (TpA.set r i t)
theorem TpA.take : ∀ {vs : List V} {ds : List D} (n : Nat), TpA H vs ds → TpA H (vs.take n) (ds.take n)
  | _, _, 0, _ => .nil
  | _, _, _ + 1, .nil => .nil
  | _, _, n + 1, .cons r t => .cons r (TpA.take n t)
theorem TpA.drop : ∀ {vs : List V} {ds : List D} (n : Nat), TpA H vs ds → TpA H (vs.drop n) (ds.drop n)
  | _, _, 0, r => r
  | _, _, _ + 1, .nil => .nil
  | _, _, n + 1, .cons _ t => TpA.drop n t
theorem TpA.dropLast {vs : List V} {ds : List D} (t : TpA H vs ds) : TpA H vs.dropLast ds.dropLast := by
  rw [List.dropLast_eq_take, List.dropLast_eq_take, t.length]
  exact t.take _
theorem TpA.reverse : ∀ {vs : List V} {ds : List D}, TpA H vs ds → TpA H vs.reverse ds.reverse
  | _, _, .nil => .nil
  | _, _, .cons r t => by
    rw [List.reverse_cons, List.reverse_cons]
    exact (TpA.reverse t).append (.one r)
theorem TpA.flatten_replicate {vs : List V} {ds : List D} (t : TpA H vs ds) : ∀ n : Nat, TpA H (List.replicate n vs).flatten (List.replicate n ds).flatten
  | 0 => .nil
  | n + 1 => by
    rw [List.replicate_succ, List.replicate_succ, List.flatten_cons, List.flatten_cons]
    exact t.append (TpA.flatten_replicate t n)
theorem TpA.ints : ∀ ns : List Int, TpA H (ns.map V.int) (ns.map D.int)
  | [] => .nil
  | n :: r => .cons (.int n) (TpA.ints r)
theorem TpA.strs : ∀ ns : List Str, TpA H (ns.map V.str) (ns.map D.str)
  | [] => .nil
  | n :: r => .cons (.str n) (TpA.strs r)
theorem TpA.bls : ∀ ns : List Bool, TpA H (ns.map V.bl) (ns.map D.bl)
  | [] => .nil
  | n :: r => .cons (.bl n) (TpA.bls r)
theorem TpA.of_ints : ∀ {ns : List Int} {vs : List V}, TpA H vs (ns.map D.int) → vs = ns.map V.int
  | [], _, .nil => rfl
  | n :: r, _, .cons h t => by cases h; rw [TpA.of_ints t]; rfl
theorem TpA.of_strs : ∀ {ns : List Str} {vs : List V}, TpA H vs (ns.map D.str) → vs = ns.map V.str
  | [], _, .nil => rfl
  | n :: r, _, .cons h t => by cases h; rw [TpA.of_strs t]; rfl
theorem TpA.of_bls : ∀ {ns : List Bool} {vs : List V}, TpA H vs (ns.map D.bl) → vs = ns.map V.bl
  | [], _, .nil => rfl
  | n :: r, _, .cons h t => by cases h; rw [TpA.of_bls t]; rfl
end

/-! ### data as the library's own -/
mutual
def py : D → Option PyData
  | .non => some .none
  | .bl b => some (.bool b)
  | .int i => some (.int i)
  | .str x => some (.str x)
  | .lst xs => (pyA xs).map .list
  | .tup xs => (pyA xs).map .tuple
  | _ => none
def pyA : List D → Option (List PyData)
  | [] => some []
  | d :: r => (py d).bind fun x => (pyA r).map (x :: ·)
end
mutual
theorem Tp.dp {K : PySem.W.Frag} {H : Hp} : ∀ {v : V} {d : D} {p : PyData}, Tp H v d → py d = some p → Dp K H v p
  | _, _, _, .non, e => by simp only [py, Option.some.injEq] at e; subst e; exact .non
  | _, _, _, .bl b, e => by simp only [py, Option.some.injEq] at e; subst e; exact .bl b
  | _, _, _, .int b, e => by simp only [py, Option.some.injEq] at e; subst e; exact .int b
  | _, _, _, .str b, e => by simp only [py, Option.some.injEq] at e; subst e; exact .str b
  | _, _, _, .raw b, e => by simp [py] at e
  | _, _, _, .lst h t, e => by
    simp only [py] at e
    cases q : pyA _ with
    | none => rw [q] at e; cases e
    | some ps =>
      rw [q] at e
      cases e
      exact .lst (SqL.of h) (TpA.dp t q)
  | _, _, _, .tup h t, e => by
    simp only [py] at e
    cases q : pyA _ with
    | none => rw [q] at e; cases e
    | some ps =>
      rw [q] at e
      cases e
      exact .tup (SqT.of h) (TpA.dp t q)
  | _, _, _, .ins h t, e => by simp [py] at e
  | _, _, _, .dk h t, e => by simp [py] at e
  | _, _, _, .exc h, e => by simp [py] at e
  | _, _, _, .scr h, e => by simp [py] at e
theorem TpA.dp {K : PySem.W.Frag} {H : Hp} : ∀ {v : List V} {d : List D} {p : List PyData}, TpA H v d → pyA d = some p → DpAll K H v p
  | _, _, _, .nil, e => by simp only [pyA, Option.some.injEq] at e; subst e; exact .nil
  | _, _, _, .cons h t, e => by
    simp only [pyA] at e
    cases q : py _ with
    | none => rw [q] at e; cases e
    | some x =>
      rw [q] at e
      cases q2 : pyA _ with
      | none => rw [q2] at e; cases e
      | some r =>
        rw [q2] at e
        cases e
        exact .cons (Tp.dp h q) (TpA.dp t q2)
end
theorem pyA_map {α : Type} (f : α → D) (g : α → PyData) (h : ∀ a, py (f a) = some (g a)) : ∀ xs : List α, pyA (xs.map f) = some (xs.map g)
  | [] => rfl
  | x :: r => by simp only [List.map_cons, pyA, h x, pyA_map f g h r, Option.bind_some, Option.map_some]

/-! ### slots -/
inductive Sl where
  | un
  | dat (d : D)
  | own (xs : List D)
  | obj (C : Addr) (fs : List (Str × D))

/-- the parts of a heap: G: what never changes any more; H: all -/
structure Grow (G H G' H' : Hp) : Prop where
  h : Evl.Ex H H'
  g : Evl.Ex G G'
  i : Evl.Ex G' H'
  n : ∀ a o, G' a = some o → G a = some o ∨ H a = none
theorem Grow.refl {G H : Hp} (e : Evl.Ex G H) : Grow G H G H := ⟨Evl.Ex.refl _, Evl.Ex.refl _, e, fun _ _ h => .inl h⟩
theorem Grow.trans {G H G1 H1 G2 H2 : Hp} (a : Grow G H G1 H1) (b : Grow G1 H1 G2 H2) : Grow G H G2 H2 := ⟨a.h.trans b.h, a.g.trans b.g, b.i, fun c o e => by
  rcases b.n c o e with q | q
  · exact a.n c o q
  · exact .inr (a.h.none q)⟩
/-- a new object, held by G too -/
theorem Grow.new {G H : Hp} {p : Addr} {o : HO} (e : Evl.Ex G H) (hp : H p = none) : Grow G H (upd G p o) (upd H p o) := ⟨Evl.Ex.new hp, Evl.Ex.new (e.none hp), fun a u q => by
  by_cases ha : a = p
  · subst ha; rw [upd_same] at q ⊢; exact q
  · rw [upd_ne ha] at q ⊢; exact e a u q, fun a u q => by
  by_cases ha : a = p
  · subst ha; exact .inr hp
  · rw [upd_ne ha] at q; exact .inl q⟩
/-- a new object of H alone -/
theorem Grow.newH {G H : Hp} {p : Addr} {o : HO} (e : Evl.Ex G H) (hp : H p = none) : Grow G H G (upd H p o) := ⟨Evl.Ex.new hp, Evl.Ex.refl _, e.trans (Evl.Ex.new hp), fun _ _ h => .inl h⟩
/-- an object of H that G lacks, new, goes to G -/
theorem Grow.take {G H G' H' : Hp} {p : Addr} {o : HO} (a : Grow G H G' H') (hp : H p = none) (h' : H' p = some o) (hg : G' p = none) : Grow G H (upd G' p o) H' := ⟨a.h, a.g.trans (Evl.Ex.new hg), fun b u q => by
  by_cases hb : b = p
  · subst hb; rw [upd_same] at q; rw [h']; exact q
  · rw [upd_ne hb] at q; exact a.i b u q, fun b u q => by
  by_cases hb : b = p
  · subst hb; exact .inr hp
  · rw [upd_ne hb] at q; exact a.n b u q⟩

def SlAt (K : PySem.W.Frag) (G H : Hp) : Option (Option V) → Sl → Option Addr → Prop
  | _, .un, o => o = none
  | some (some v), .dat d, o => o = none ∧ Tp G v d
  | some (some v), .own xs, o => ∃ p vs, v = .ref p ∧ o = some p ∧ H p = some (.lst vs) ∧ TpA G vs xs
  | some (some v), .obj C fs, o => ∃ p dx vs, v = .ref p ∧ o = some p ∧ H p = some (.ins C dx vs) ∧ TpF G vs fs
  | _, _, _ => False
theorem SlAt.up {K : PySem.W.Frag} {G H G' H' : Hp} (g : Evl.Ex G G') (e : Evl.Ex H H') : ∀ {o : Option (Option V)} {s : Sl} {p : Option Addr}, SlAt K G H o s p → SlAt K G' H' o s p
  | o, .un, p, h => by cases o with | none => exact h | some w => cases w <;> exact h
  | some (some v), .dat d, _, h => ⟨h.1, h.2.mono g⟩
  | some (some v), .own xs, _, ⟨p, vs, a, b, c, d⟩ => ⟨p, vs, a, b, e _ _ c, d.mono g⟩
  | some (some v), .obj C fs, _, ⟨p, dx, vs, a, b, c, d⟩ => ⟨p, dx, vs, a, b, e _ _ c, d.mono g⟩
  | none, .dat d, _, h => h.elim
  | none, .own d, _, h => h.elim
  | none, .obj _ _, _, h => h.elim
  | some none, .dat d, _, h => h.elim
  | some none, .own d, _, h => h.elim
  | some none, .obj _ _, _, h => h.elim
theorem SlAt.grow {K : PySem.W.Frag} {G H G' H' : Hp} (g : Grow G H G' H') {o : Option (Option V)} {s : Sl} {p : Option Addr} (h : SlAt K G H o s p) : SlAt K G' H' o s p := h.up g.g g.h
/-- what the slot owns -/
theorem SlAt.owns {K : PySem.W.Frag} {G H : Hp} {p : Addr} : ∀ {o : Option (Option V)} {s : Sl}, SlAt K G H o s (some p) → H p ≠ none
  | o, .un, h => by cases o with | none => cases h | some w => cases w <;> cases h
  | some (some v), .dat d, h => nomatch h.1
  | some (some v), .own xs, ⟨q, vs, a, b, c, d⟩ => by cases b; rw [c]; exact fun z => nomatch z
  | some (some v), .obj C fs, ⟨q, dx, vs, a, b, c, d⟩ => by cases b; rw [c]; exact fun z => nomatch z
  | none, .dat d, h => h.elim
  | none, .own d, h => h.elim
  | none, .obj _ _, h => h.elim
  | some none, .dat d, h => h.elim
  | some none, .own d, h => h.elim
  | some none, .obj _ _, h => h.elim
/-- another object changes -/
theorem SlAt.out {K : PySem.W.Frag} {G H : Hp} {p : Addr} {u : HO} : ∀ {o : Option (Option V)} {s : Sl} {q : Option Addr}, SlAt K G H o s q → q ≠ some p → SlAt K G (upd H p u) o s q
  | o, .un, _, h, _ => by cases o with | none => exact h | some w => cases w <;> exact h
  | some (some v), .dat d, _, h, _ => h
  | some (some v), .own xs, _, ⟨q, vs, a, b, c, d⟩, n => ⟨q, vs, a, b, by rw [upd_ne (fun e => n (by rw [b, e]))]; exact c, d⟩
  | some (some v), .obj C fs, _, ⟨q, dx, vs, a, b, c, d⟩, n => ⟨q, dx, vs, a, b, by rw [upd_ne (fun e => n (by rw [b, e]))]; exact c, d⟩
  | none, .dat d, _, h, _ => h.elim
  | none, .own d, _, h, _ => h.elim
  | none, .obj _ _, _, h, _ => h.elim
  | some none, .dat d, _, h, _ => h.elim
  | some none, .own d, _, h, _ => h.elim
  | some none, .obj _ _, _, h, _ => h.elim

/-- the entry: G0, H0 as they stood; A: what is anchored -/
structure Bs where
  G : Hp
  H : Hp
  A : Hp

structure EnvG (K : PySem.W.Frag) (B : Bs) (G H : Hp) (σ : L2.St) (ds : List Sl) (ow : Nat → Option Addr) : Prop where
  gr : Grow B.G B.H G H
  anc : Evl.Ex B.A G
  dis : ∀ i p, ow i = some p → G p = none ∧ B.H p = none
  inj : ∀ i j p, ow i = some p → ow j = some p → i = j
  len : σ.length = ds.length
  at_ : ∀ i s, ds[i]? = some s → SlAt K G H σ[i]? s (ow i)
  hi : ∀ i, ds.length ≤ i → ow i = none
def Env (K : PySem.W.Frag) (B : Bs) (H : Hp) (σ : L2.St) (ds : List Sl) : Prop := ∃ G ow, EnvG K B G H σ ds ow
section
variable {K : PySem.W.Frag} {B : Bs} {G H G' H' : Hp} {σ : L2.St} {ds : List Sl} {ow : Nat → Option Addr}
theorem EnvG.live (E : EnvG K B G H σ ds ow) {i : Nat} {p : Addr} (h : ow i = some p) : H p ≠ none := by
  cases q : ds[i]? with
  | none =>
    have := E.hi i (List.getElem?_eq_none_iff.mp q)
    rw [h] at this; cases this
  | some s =>
    have z := E.at_ i s q
    rw [h] at z
    exact z.owns
theorem EnvG.grow (E : EnvG K B G H σ ds ow) (g : Grow G H G' H') : EnvG K B G' H' σ ds ow where
  gr := E.gr.trans g
  anc := E.anc.trans g.g
  dis := fun i p h => ⟨by
    cases q : G' p with
    | none => rfl
    | some o =>
      rcases g.n p o q with z | z
      · rw [(E.dis i p h).1] at z; cases z
      · exact absurd z (E.live h), (E.dis i p h).2⟩
  inj := E.inj
  len := E.len
  at_ := fun i s h => (E.at_ i s h).grow g
  hi := E.hi
/-- an object that nobody knows changes -/
theorem EnvG.out (E : EnvG K B G H σ ds ow) {p : Addr} {u : HO} (hg : G p = none) (h0 : B.H p = none) (hn : ∀ i, ow i ≠ some p) : EnvG K B G (upd H p u) σ ds ow where
  gr := ⟨E.gr.h.out h0, E.gr.g, E.gr.i.out hg, E.gr.n⟩
  anc := E.anc
  dis := E.dis
  inj := E.inj
  len := E.len
  at_ := fun i s h => (E.at_ i s h).out (hn i)
  hi := E.hi
/-- a slot is set to data -/
theorem EnvG.setD (E : EnvG K B G H σ ds ow) {v : V} {d : D} (i : Nat) (h : Tp G v d) : EnvG K B G H (σ.set i (some v)) (ds.set i (.dat d)) (fun j => if j = i then none else ow j) where
  gr := E.gr
  anc := E.anc
  dis := fun j p q => by
    by_cases e : j = i
    · rw [if_pos e] at q; cases q
    · rw [if_neg e] at q; exact E.dis j p q
  inj := fun j k p q r => by
    by_cases e : j = i
    · rw [if_pos e] at q; cases q
    · by_cases e2 : k = i
      · rw [if_pos e2] at r; cases r
      · rw [if_neg e] at q; rw [if_neg e2] at r; exact E.inj j k p q r
  len := by rw [List.length_set, List.length_set]; exact E.len
  at_ := fun j s q => by
    by_cases e : j = i
    · subst e
      have hl : j < ds.length := by
        have := (List.getElem?_eq_some_iff.mp q).1
        rw [List.length_set] at this; exact this
      rw [List.getElem?_set_self hl] at q
      cases q
      rw [List.getElem?_set_self (by rw [E.len]; exact hl), if_pos rfl]
      exact ⟨rfl, h⟩
    · rw [List.getElem?_set_ne (Ne.symm e)] at q
      rw [List.getElem?_set_ne (Ne.symm e), if_neg e]
      exact E.at_ j s q
  hi := fun j q => by
    by_cases e : j = i
    · rw [if_pos e]
    · rw [if_neg e]
      exact E.hi j (by rw [List.length_set] at q; exact q)
/-- a slot is set to what is owned now (p new to all) -/
theorem EnvG.setO (E : EnvG K B G H σ ds ow) {v : V} {s : Sl} {p : Addr} (i : Nat) (hi : i < ds.length) (h : SlAt K G H (some (some v)) s (some p)) (hg : G p = none) (h0 : B.H p = none) (hn : ∀ j, j ≠ i → ow j ≠ some p) : EnvG K B G H (σ.set i (some v)) (ds.set i s) (fun j => if j = i then some p else ow j) where
  gr := E.gr
  anc := E.anc
  dis := fun j q r => by
    by_cases e : j = i
    · rw [if_pos e] at r; cases r; exact ⟨hg, h0⟩
    · rw [if_neg e] at r; exact E.dis j q r
  inj := fun j k q r t => by
    by_cases e : j = i
    · rw [if_pos e] at r; cases r
      by_cases e2 : k = i
      · rw [e, e2]
      · rw [if_neg e2] at t; exact absurd t (hn k e2)
    · rw [if_neg e] at r
      by_cases e2 : k = i
      · rw [if_pos e2] at t; cases t; exact absurd r (hn j e)
      · rw [if_neg e2] at t; exact E.inj j k q r t
  len := by rw [List.length_set, List.length_set]; exact E.len
  at_ := fun j t q => by
    by_cases e : j = i
    · subst e
      rw [List.getElem?_set_self hi] at q
      cases q
      rw [List.getElem?_set_self (by rw [E.len]; exact hi), if_pos rfl]
      exact h
    · rw [List.getElem?_set_ne (Ne.symm e)] at q
      rw [List.getElem?_set_ne (Ne.symm e), if_neg e]
      exact E.at_ j t q
  hi := fun j q => by
    have hj : j ≠ i := fun e => by rw [List.length_set] at q; omega
    rw [if_neg hj]
    exact E.hi j (by rw [List.length_set] at q; exact q)
/-- a slot is forgotten -/
theorem EnvG.setU (E : EnvG K B G H σ ds ow) (o : Option V) (i : Nat) : EnvG K B G H (σ.set i o) (ds.set i .un) (fun j => if j = i then none else ow j) where
  gr := E.gr
  anc := E.anc
  dis := fun j p q => by
    by_cases e : j = i
    · rw [if_pos e] at q; cases q
    · rw [if_neg e] at q; exact E.dis j p q
  inj := fun j k p q r => by
    by_cases e : j = i
    · rw [if_pos e] at q; cases q
    · by_cases e2 : k = i
      · rw [if_pos e2] at r; cases r
      · rw [if_neg e] at q; rw [if_neg e2] at r; exact E.inj j k p q r
  len := by rw [List.length_set, List.length_set]; exact E.len
  at_ := fun j s q => by
    by_cases e : j = i
    · subst e
      have hl : j < ds.length := by
        have := (List.getElem?_eq_some_iff.mp q).1
        rw [List.length_set] at this; exact this
      rw [List.getElem?_set_self hl] at q
      cases q
      rw [List.getElem?_set_self (by rw [E.len]; exact hl), if_pos rfl]
      cases o <;> exact rfl
    · rw [List.getElem?_set_ne (Ne.symm e)] at q
      rw [List.getElem?_set_ne (Ne.symm e), if_neg e]
      exact E.at_ j s q
  hi := fun j q => by
    by_cases e : j = i
    · rw [if_pos e]
    · rw [if_neg e]
      exact E.hi j (by rw [List.length_set] at q; exact q)
end
end Wm
set_option Elab.async false
set_option linter.all false
set_option maxRecDepth 100000
set_option maxHeartbeats 4000000
namespace Wm
open PySem PySem.Spec PyProof.Rows L2
/-! ### what an expression gives -/
def Ed (K : PySem.W.Frag) (te : TE) (ds : List Sl) (d : D) : Prop := ∀ (B : Bs) (G H : Hp) (σ : L2.St) (ow : Nat → Option Addr), EnvG K B G H σ ds ow → ∀ Q : VK, (∀ v G' H', Grow G H G' H' → Tp G' v d → Q v H') → te σ H Q
/-- a new list -/
def EdL (K : PySem.W.Frag) (te : TE) (ds : List Sl) (xs : List D) : Prop := ∀ (B : Bs) (G H : Hp) (σ : L2.St) (ow : Nat → Option Addr), EnvG K B G H σ ds ow → ∀ Q : VK, (∀ p vs G' H', Grow G H G' H' → G' p = none → H p = none → H' p = some (.lst vs) → TpA G' vs xs → Q (.ref p) H') → te σ H Q
def EdA (K : PySem.W.Frag) (ta : TA) (ds : List Sl) (xs : List D) : Prop := ∀ (B : Bs) (G H : Hp) (σ : L2.St) (ow : Nat → Option Addr), EnvG K B G H σ ds ow → ∀ Q : List V → Hp → Prop, (∀ vs G' H', Grow G H G' H' → TpA G' vs xs → Q vs H') → ta σ H Q
def EdT (K : PySem.W.Frag) (tt : TT) (ds : List Sl) (b : Bool) : Prop := ∀ (B : Bs) (G H : Hp) (σ : L2.St) (ow : Nat → Option Addr), EnvG K B G H σ ds ow → ∀ Q : Bool → Hp → Prop, (∀ G' H', Grow G H G' H' → Q b H') → tt σ H Q
def EdO (K : PySem.W.Frag) (to : TO) (ds : List Sl) (o : Option Int) : Prop := ∀ (B : Bs) (G H : Hp) (σ : L2.St) (ow : Nat → Option Addr), EnvG K B G H σ ds ow → ∀ Q : Option Int → Hp → Prop, (∀ G' H', Grow G H G' H' → Q o H') → to σ H Q

section
variable {K : PySem.W.Frag} {te ta tb tc : TE} {t u : TT} {ds : List Sl} {d x y z : D} {xs ys : List D}
theorem EnvG.ref {B : Bs} {G H : Hp} {σ : L2.St} {ow : Nat → Option Addr} (E : EnvG K B G H σ ds ow) : Grow G H G H := Grow.refl E.gr.i
theorem EdL.ed (h : EdL K te ds xs) : Ed K te ds (.lst xs) := fun B G H σ ow E Q q => h B G H σ ow E Q fun p vs G' H' g hg hp h' t =>
  q (.ref p) _ H' (g.take hp h' hg) (.lst upd_same (t.mono (Evl.Ex.new hg)))
theorem Ed.is (h : Ed K te ds d) (e : d = z) : Ed K te ds z := e ▸ h
theorem EdL.is (h : EdL K te ds xs) (e : xs = ys) : EdL K te ds ys := e ▸ h
theorem EdT.is {a b : Bool} (h : EdT K t ds a) (e : a = b) : EdT K t ds b := e ▸ h
theorem ed_var {i : Nat} (h : ds[i]? = some (.dat d)) : Ed K (tVar i) ds d := fun B G H σ ow E Q q => by
  have z := E.at_ i _ h
  cases e : σ[i]? with
  | none => rw [e] at z; exact z.elim
  | some w =>
    cases w with
    | none => rw [e] at z; exact z.elim
    | some v =>
      rw [e] at z
      exact ⟨v, e, q v G H E.ref z.2⟩
def dv : V → D
  | .non => .non
  | .bl b => .bl b
  | .int i => .int i
  | .str x => .str x
  | v => .raw v
theorem tp_dv (H : Hp) : ∀ v : V, Tp H v (dv v)
  | .non => .non
  | .bl b => .bl b
  | .int i => .int i
  | .str x => .str x
  | .byt x => .raw _
  | .flt x => .raw _
  | .ref x => .raw _
  | .ty x => .raw _
theorem ed_c (v : V) : Ed K (tC v) ds (dv v) := fun B G H σ ow E Q q => q v G H E.ref (tp_dv G v)
theorem ed_int (i : Int) : Ed K (tC (.int i)) ds (.int i) := ed_c _
theorem ed_str (i : Str) : Ed K (tC (.str i)) ds (.str i) := ed_c _
theorem ed_bl (i : Bool) : Ed K (tC (.bl i)) ds (.bl i) := ed_c _
theorem ed_non : Ed K (tC .non) ds .non := ed_c _
theorem ed_raw (v : V) : Ed K (tC v) ds (.raw v) := fun B G H σ ow E Q q => q v G H E.ref (.raw v)

/-! ### operators -/
/-- a two-place operation that makes nothing -/
def P2 (r : R2) (x y z : D) : Prop := ∀ (G H : Hp) (v w : V), Evl.Ex G H → Tp G v x → Tp G w y → ∃ u, Tp G u z ∧ ∀ Q : VK, Q u H → r v w H Q
/-- .. that makes a list -/
def L2' (r : R2) (x y : D) (xs : List D) : Prop := ∀ (G H : Hp) (v w : V), Evl.Ex G H → Tp G v x → Tp G w y → ∃ vs, TpA G vs xs ∧ ∀ Q : VK, (∀ p, H p = none → Q (.ref p) (upd H p (.lst vs))) → r v w H Q
theorem ed_op {r : R2} (ha : Ed K ta ds x) (hb : Ed K tb ds y) (h : P2 r x y z) : Ed K (tOp r ta tb) ds z := fun B G H σ ow E Q q =>
  ha B G H σ ow E _ fun v G1 H1 g1 t1 => hb B G1 H1 σ ow (E.grow g1) _ fun w G2 H2 g2 t2 => by
    obtain ⟨u, tu, k⟩ := h G2 H2 v w g2.i (t1.mono g2.g) t2
    exact k Q (q u G2 H2 (g1.trans g2) tu)
theorem el_op {r : R2} (ha : Ed K ta ds x) (hb : Ed K tb ds y) (h : L2' r x y xs) : EdL K (tOp r ta tb) ds xs := fun B G H σ ow E Q q =>
  ha B G H σ ow E _ fun v G1 H1 g1 t1 => hb B G1 H1 σ ow (E.grow g1) _ fun w G2 H2 g2 t2 => by
    obtain ⟨vs, tv, k⟩ := h G2 H2 v w g2.i (t1.mono g2.g) t2
    refine k Q fun p hp => q p vs G2 _ ((g1.trans g2).trans (Grow.newH g2.i hp)) (g2.i.none hp) ((g1.trans g2).h.none hp) upd_same tv
theorem ed_opI0 {g : Int → Int → V} {i j : Int} (ha : Ed K ta ds (.int i)) (hb : Ed K tb ds (.int j)) : Ed K (tOp (rI0 g) ta tb) ds (dv (g i j)) :=
  ed_op ha hb fun G H v w e t1 t2 => by cases t1; cases t2; exact ⟨_, tp_dv _ _, fun Q q => ⟨i, j, rfl, rfl, q⟩⟩
theorem ed_opI {C : Int → Int → Prop} {g : Int → Int → V} {i j : Int} (ha : Ed K ta ds (.int i)) (hb : Ed K tb ds (.int j)) (hc : C i j) : Ed K (tOp (rI C g) ta tb) ds (dv (g i j)) :=
  ed_op ha hb fun G H v w e t1 t2 => by cases t1; cases t2; exact ⟨_, tp_dv _ _, fun Q q => ⟨i, j, rfl, rfl, hc, q⟩⟩
theorem ed_un {g : Int → V} {i : Int} (ha : Ed K ta ds (.int i)) : Ed K (tUn (rU g) ta) ds (dv (g i)) := fun B G H σ ow E Q q =>
  ha B G H σ ow E _ fun v G1 H1 g1 t1 => by cases t1; exact ⟨i, rfl, q _ G1 H1 g1 (tp_dv _ _)⟩
/-- == of data -/
theorem ed_eqD {p q : PyData} (ha : Ed K ta ds x) (hb : Ed K tb ds y) (e1 : py x = some p) (e2 : py y = some q) (s1 : SeqAt.shaped p = true) (s2 : SeqAt.shaped q = true) : Ed K (tOp (rEqD K) ta tb) ds (.bl (PyData.eqv p q)) :=
  ed_op ha hb fun G H v w e t1 t2 => ⟨_, .bl _, fun Q k => ⟨p, q, (t1.mono e).dp e1, (t2.mono e).dp e2, s1, s2, k⟩⟩
theorem ed_neD {p q : PyData} (ha : Ed K ta ds x) (hb : Ed K tb ds y) (e1 : py x = some p) (e2 : py y = some q) (s1 : SeqAt.shaped p = true) (s2 : SeqAt.shaped q = true) : Ed K (tOp (rNeD K) ta tb) ds (.bl (!PyData.eqv p q)) :=
  ed_op ha hb fun G H v w e t1 t2 => ⟨_, .bl _, fun Q k => ⟨p, q, (t1.mono e).dp e1, (t2.mono e).dp e2, s1, s2, k⟩⟩
/-- == of ints, texts, truths, None -/
theorem ed_eqI {i j : Int} (ha : Ed K ta ds (.int i)) (hb : Ed K tb ds (.int j)) : Ed K (tOp rEq ta tb) ds (.bl (decide (i = j))) :=
  ed_op ha hb fun G H v w e t1 t2 => by
    cases t1; cases t2
    refine ⟨_, .bl _, fun Q k => ⟨rfl, ?_⟩⟩
    have z : decide (V.int i = V.int j) = decide (i = j) := by
      by_cases h : i = j
      · rw [h]; simp
      · rw [decide_eq_false h, decide_eq_false fun q => h (V.int.inj q)]
    rw [z]; exact k
theorem ed_neI {i j : Int} (ha : Ed K ta ds (.int i)) (hb : Ed K tb ds (.int j)) : Ed K (tOp rNe ta tb) ds (.bl (!decide (i = j))) :=
  ed_op ha hb fun G H v w e t1 t2 => by
    cases t1; cases t2
    refine ⟨_, .bl _, fun Q k => ⟨rfl, ?_⟩⟩
    have z : decide (V.int i = V.int j) = decide (i = j) := by
      by_cases h : i = j
      · rw [h]; simp
      · rw [decide_eq_false h, decide_eq_false fun q => h (V.int.inj q)]
    rw [z]; exact k
theorem ed_eqS {i j : Str} (ha : Ed K ta ds (.str i)) (hb : Ed K tb ds (.str j)) : Ed K (tOp rEq ta tb) ds (.bl (decide (i = j))) :=
  ed_op ha hb fun G H v w e t1 t2 => by
    cases t1; cases t2
    refine ⟨_, .bl _, fun Q k => ⟨rfl, ?_⟩⟩
    have z : decide (V.str i = V.str j) = decide (i = j) := by
      by_cases h : i = j
      · rw [h]; simp
      · rw [decide_eq_false h, decide_eq_false fun q => h (V.str.inj q)]
    rw [z]; exact k
theorem ed_neS {i j : Str} (ha : Ed K ta ds (.str i)) (hb : Ed K tb ds (.str j)) : Ed K (tOp rNe ta tb) ds (.bl (!decide (i = j))) :=
  ed_op ha hb fun G H v w e t1 t2 => by
    cases t1; cases t2
    refine ⟨_, .bl _, fun Q k => ⟨rfl, ?_⟩⟩
    have z : decide (V.str i = V.str j) = decide (i = j) := by
      by_cases h : i = j
      · rw [h]; simp
      · rw [decide_eq_false h, decide_eq_false fun q => h (V.str.inj q)]
    rw [z]; exact k
/-- the readings of rules that are written out in the library -/
abbrev rStr2 (g : Str → Str → V) : R2 := fun x y H Q => ∃ i j, x = .str i ∧ y = .str j ∧ Q (g i j) H
theorem ed_opS {g : Str → Str → V} {i j : Str} (ha : Ed K ta ds (.str i)) (hb : Ed K tb ds (.str j)) : Ed K (tOp (rStr2 g) ta tb) ds (dv (g i j)) :=
  ed_op ha hb fun G H v w e t1 t2 => by cases t1; cases t2; exact ⟨_, tp_dv _ _, fun Q q => ⟨i, j, rfl, rfl, q⟩⟩
theorem ed_addS {i j : Str} (ha : Ed K ta ds (.str i)) (hb : Ed K tb ds (.str j)) (hl : i.length + j.length ≤ sizeLine) : Ed K (tOp (fun x y H Q => ∃ i j, x = .str i ∧ y = .str j ∧ i.length + j.length ≤ sizeLine ∧ Q (.str (i ++ j)) H) ta tb) ds (.str (i ++ j)) :=
  ed_op ha hb fun G H v w e t1 t2 => by cases t1; cases t2; exact ⟨_, .str _, fun Q q => ⟨i, j, rfl, rfl, hl, q⟩⟩
theorem ed_inSign {c : Nat} {s : Str} (ha : Ed K ta ds (.str ⟨#[c]⟩)) (hb : Ed K tb ds (.str s)) : Ed K (tOp (fun x y H Q => ∃ (c : Nat) (z : Str), x = .str ⟨#[c]⟩ ∧ y = .str z ∧ Q (.bl (decide (c ∈ z.cps.toList))) H) ta tb) ds (.bl (decide (c ∈ s.cps.toList))) :=
  ed_op ha hb fun G H v w e t1 t2 => by cases t1; cases t2; exact ⟨_, .bl _, fun Q q => ⟨c, s, rfl, rfl, q⟩⟩
theorem ed_ninSign {c : Nat} {s : Str} (ha : Ed K ta ds (.str ⟨#[c]⟩)) (hb : Ed K tb ds (.str s)) : Ed K (tOp (fun x y H Q => ∃ (c : Nat) (z : Str), x = .str ⟨#[c]⟩ ∧ y = .str z ∧ Q (.bl (!decide (c ∈ z.cps.toList))) H) ta tb) ds (.bl (!decide (c ∈ s.cps.toList))) :=
  ed_op ha hb fun G H v w e t1 t2 => by cases t1; cases t2; exact ⟨_, .bl _, fun Q q => ⟨c, s, rfl, rfl, q⟩⟩
/-- is None, is not None -/
def isNonD : D → Option Bool
  | .non => some true
  | .raw _ => none
  | _ => some false
theorem isNonD_ok {G : Hp} {v : V} {d : D} {b : Bool} (t : Tp G v d) (h : isNonD d = some b) : decide (v = .non) = b := by
  cases t <;> simp_all [isNonD] <;> (subst h; simp)
theorem ed_isN {b : Bool} (ha : Ed K ta ds x) (h : isNonD x = some b) : Ed K (tOp (fun x y H Q => y = .non ∧ Q (.bl (decide (x = .non))) H) ta (tC .non)) ds (.bl b) := fun B G H σ ow E Q q =>
  ha B G H σ ow E _ fun v G1 H1 g1 t1 => ⟨rfl, by rw [isNonD_ok t1 h]; exact q _ G1 H1 g1 (.bl b)⟩
theorem ed_notN {b : Bool} (ha : Ed K ta ds x) (h : isNonD x = some b) : Ed K (tOp (fun x y H Q => y = .non ∧ Q (.bl (!decide (x = .non))) H) ta (tC .non)) ds (.bl (!b)) := fun B G H σ ow E Q q =>
  ha B G H σ ow E _ fun v G1 H1 g1 t1 => ⟨rfl, by rw [isNonD_ok t1 h]; exact q _ G1 H1 g1 (.bl (!b))⟩
/-- a chain a < b < c -/
theorem ed_chain {r r' : R2} {b c : Bool} (ha : Ed K ta ds x) (hb : Ed K tb ds y) (h1 : P2 r x y (.bl b)) (hc : b = true → Ed K tc ds z) (h2 : b = true → P2 r' y z (.bl c)) : Ed K (tChain r r' ta tb tc) ds (.bl (b && c)) := fun B G H σ ow E Q q =>
  ha B G H σ ow E _ fun v G1 H1 g1 t1 => hb B G1 H1 σ ow (E.grow g1) _ fun w G2 H2 g2 t2 => by
    obtain ⟨u, tu, k⟩ := h1 G2 H2 v w g2.i (t1.mono g2.g) t2
    cases tu
    refine k _ ⟨b, rfl, ?_⟩
    cases b with
    | false => exact q _ G2 H2 (g1.trans g2) (.bl _)
    | true =>
      refine hc rfl B G2 H2 σ ow ((E.grow g1).grow g2) _ fun w' G3 H3 g3 t3 => ?_
      obtain ⟨u', tu', k'⟩ := h2 rfl G3 H3 w w' g3.i (t2.mono g3.g) t3
      exact k' Q (q u' G3 H3 ((g1.trans g2).trans g3) (by simpa using tu'))
theorem p2_I0 {g : Int → Int → V} {i j : Int} : P2 (rI0 g) (.int i) (.int j) (dv (g i j)) := fun G H v w e t1 t2 => by cases t1; cases t2; exact ⟨_, tp_dv _ _, fun Q q => ⟨i, j, rfl, rfl, q⟩⟩
theorem p2_S {g : Str → Str → V} {i j : Str} : P2 (rStr2 g) (.str i) (.str j) (dv (g i j)) := fun G H v w e t1 t2 => by cases t1; cases t2; exact ⟨_, tp_dv _ _, fun Q q => ⟨i, j, rfl, rfl, q⟩⟩

/-! ### tests, and or not -/
theorem et_test {b : Bool} (h : Ed K te ds (.bl b)) : EdT K (tTest te) ds b := fun B G H σ ow E Q q => h B G H σ ow E _ fun v G1 H1 g1 t1 => by cases t1; exact ⟨b, rfl, q G1 H1 g1⟩
theorem et_B {b : Bool} (h : Ed K te ds (.bl b)) : EdT K (tB te) ds b := fun B G H σ ow E Q q => h B G H σ ow E _ fun v G1 H1 g1 t1 => by cases t1; exact ⟨b, rfl, q G1 H1 g1⟩
theorem et_and {a b : Bool} (h1 : EdT K t ds a) (h2 : a = true → EdT K u ds b) : EdT K (tAnd t u) ds (a && b) := fun B G H σ ow E Q q => h1 B G H σ ow E _ fun G1 H1 g1 => by
  cases a with
  | true =>
    show u σ H1 Q
    exact h2 rfl B G1 H1 σ ow (E.grow g1) Q fun G2 H2 g2 => q G2 H2 (g1.trans g2)
  | false => exact q G1 H1 g1
theorem et_or {a b : Bool} (h1 : EdT K t ds a) (h2 : a = false → EdT K u ds b) : EdT K (tOr t u) ds (a || b) := fun B G H σ ow E Q q => h1 B G H σ ow E _ fun G1 H1 g1 => by
  cases a with
  | false =>
    show u σ H1 Q
    exact h2 rfl B G1 H1 σ ow (E.grow g1) Q fun G2 H2 g2 => q G2 H2 (g1.trans g2)
  | true => exact q G1 H1 g1
theorem et_not {a : Bool} (h1 : EdT K t ds a) : EdT K (tNot t) ds (!a) := fun B G H σ ow E Q q => h1 B G H σ ow E _ fun G1 H1 g1 => q G1 H1 g1
theorem ed_andV {a b : Bool} (h1 : Ed K ta ds (.bl a)) (h2 : a = true → Ed K tb ds (.bl b)) : Ed K (tAndV ta tb) ds (.bl (a && b)) := fun B G H σ ow E Q q => h1 B G H σ ow E _ fun v G1 H1 g1 t1 => by
  cases t1
  refine ⟨a, rfl, ?_⟩
  cases a with
  | true =>
    show tb σ H1 Q
    exact h2 rfl B G1 H1 σ ow (E.grow g1) Q fun v G2 H2 g2 t2 => q v G2 H2 (g1.trans g2) t2
  | false => exact q _ G1 H1 g1 (.bl _)
theorem ed_orV {a b : Bool} (h1 : Ed K ta ds (.bl a)) (h2 : a = false → Ed K tb ds (.bl b)) : Ed K (tOrV ta tb) ds (.bl (a || b)) := fun B G H σ ow E Q q => h1 B G H σ ow E _ fun v G1 H1 g1 t1 => by
  cases t1
  refine ⟨a, rfl, ?_⟩
  cases a with
  | false =>
    show tb σ H1 Q
    exact h2 rfl B G1 H1 σ ow (E.grow g1) Q fun v G2 H2 g2 t2 => q v G2 H2 (g1.trans g2) t2
  | true => exact q _ G1 H1 g1 (.bl _)
theorem ed_notV {a : Bool} (h1 : Ed K ta ds (.bl a)) : Ed K (tNotV ta) ds (.bl (!a)) := fun B G H σ ow E Q q => h1 B G H σ ow E _ fun v G1 H1 g1 t1 => by cases t1; exact ⟨a, rfl, q _ G1 H1 g1 (.bl _)⟩
theorem ed_if {b : Bool} (h : EdT K t ds b) (h1 : b = true → Ed K ta ds d) (h2 : b = false → Ed K tb ds d) : Ed K (tIf t ta tb) ds d := fun B G H σ ow E Q q => h B G H σ ow E _ fun G1 H1 g1 => by
  cases b with
  | true => exact h1 rfl B G1 H1 σ ow (E.grow g1) Q fun v G2 H2 g2 t2 => q v G2 H2 (g1.trans g2) t2
  | false => exact h2 rfl B G1 H1 σ ow (E.grow g1) Q fun v G2 H2 g2 t2 => q v G2 H2 (g1.trans g2) t2
theorem ed_ite {b : Bool} (h : EdT K t ds b) (h1 : b = true → Ed K ta ds x) (h2 : b = false → Ed K tb ds y) : Ed K (tIf t ta tb) ds (if b = true then x else y) :=
  ed_if h (fun e => by rw [if_pos e]; exact h1 e) (fun e => by rw [if_neg (by rw [e]; exact Bool.false_ne_true)]; exact h2 e)

/-! ### arguments, displays, calls -/
theorem ea_nil : EdA K tNil ds [] := fun B G H σ ow E Q q => q [] G H E.ref .nil
theorem ea_cons {tr : TA} (h : Ed K te ds x) (hr : EdA K tr ds xs) : EdA K (tCons te tr) ds (x :: xs) := fun B G H σ ow E Q q =>
  h B G H σ ow E _ fun v G1 H1 g1 t1 => hr B G1 H1 σ ow (E.grow g1) _ fun vs G2 H2 g2 t2 => q _ G2 H2 (g1.trans g2) (.cons (t1.mono g2.g) t2)
theorem ed_tup {ta : TA} (h : EdA K ta ds xs) (hl : xs.length ≤ 100000) : Ed K (tTup ta) ds (.tup xs) := fun B G H σ ow E Q q =>
  h B G H σ ow E _ fun vs G1 H1 g1 t1 => ⟨by rw [t1.length]; exact Nat.le_trans hl (by decide), fun p hp => q _ _ _ (g1.trans (Grow.new g1.i hp)) (.tup upd_same (t1.mono (Evl.Ex.new (g1.i.none hp))))⟩
theorem el_lst {ta : TA} (h : EdA K ta ds xs) (hl : xs.length ≤ 100000) : EdL K (tLst ta) ds xs := fun B G H σ ow E Q q =>
  h B G H σ ow E _ fun vs G1 H1 g1 t1 => ⟨by rw [t1.length]; exact Nat.le_trans hl (by decide), fun p hp => q p vs _ _ (g1.trans (Grow.newH g1.i hp)) (g1.i.none hp) (g1.h.none hp) upd_same t1⟩
/-- a call of a builtin that makes nothing -/
def PC (r : List V → Hp → VK → Prop) (xs : List D) (z : D) : Prop := ∀ (G H : Hp) (vs : List V), Evl.Ex G H → TpA G vs xs → ∃ u, Tp G u z ∧ ∀ Q : VK, Q u H → r vs H Q
def LC (r : List V → Hp → VK → Prop) (xs : List D) (ys : List D) : Prop := ∀ (G H : Hp) (vs : List V), Evl.Ex G H → TpA G vs xs → ∃ ws, TpA G ws ys ∧ ∀ Q : VK, (∀ p, H p = none → Q (.ref p) (upd H p (.lst ws))) → r vs H Q
def UC (r : List V → Hp → VK → Prop) (xs : List D) (ys : List D) : Prop := ∀ (G H : Hp) (vs : List V), Evl.Ex G H → TpA G vs xs → ∃ ws, TpA G ws ys ∧ ∀ Q : VK, (∀ p, H p = none → Q (.ref p) (upd H p (.tup ws))) → r vs H Q
theorem ed_cb {r : List V → Hp → VK → Prop} {ta : TA} (h : EdA K ta ds xs) (hr : PC r xs z) : Ed K (tCB r ta) ds z := fun B G H σ ow E Q q =>
  h B G H σ ow E _ fun vs G1 H1 g1 t1 => by
    obtain ⟨u, tu, k⟩ := hr G1 H1 vs g1.i t1
    exact k Q (q u G1 H1 g1 tu)
theorem el_cb {r : List V → Hp → VK → Prop} {ta : TA} (h : EdA K ta ds xs) (hr : LC r xs ys) : EdL K (tCB r ta) ds ys := fun B G H σ ow E Q q =>
  h B G H σ ow E _ fun vs G1 H1 g1 t1 => by
    obtain ⟨ws, tw, k⟩ := hr G1 H1 vs g1.i t1
    exact k Q fun p hp => q p ws G1 _ (g1.trans (Grow.newH g1.i hp)) (g1.i.none hp) (g1.h.none hp) upd_same tw
theorem eu_cb {r : List V → Hp → VK → Prop} {ta : TA} (h : EdA K ta ds xs) (hr : UC r xs ys) : Ed K (tCB r ta) ds (.tup ys) := fun B G H σ ow E Q q =>
  h B G H σ ow E _ fun vs G1 H1 g1 t1 => by
    obtain ⟨ws, tw, k⟩ := hr G1 H1 vs g1.i t1
    exact k Q fun p hp => q _ _ _ (g1.trans (Grow.new g1.i hp)) (.tup upd_same (tw.mono (Evl.Ex.new (g1.i.none hp))))
/-! a method of a built-in type -/
def PM (r : V → List V → Hp → VK → Prop) (x : D) (xs : List D) (z : D) : Prop := ∀ (G H : Hp) (v : V) (vs : List V), Evl.Ex G H → Tp G v x → TpA G vs xs → ∃ u, Tp G u z ∧ ∀ Q : VK, Q u H → r v vs H Q
def LM (r : V → List V → Hp → VK → Prop) (x : D) (xs : List D) (ys : List D) : Prop := ∀ (G H : Hp) (v : V) (vs : List V), Evl.Ex G H → Tp G v x → TpA G vs xs → ∃ ws, TpA G ws ys ∧ ∀ Q : VK, (∀ p, H p = none → Q (.ref p) (upd H p (.lst ws))) → r v vs H Q

/-! ### own defs: what a call promises -/
/-- a def that changes nothing: of the arguments xs the answer r -/
def SpD (R : List D → D → Prop) : Sp := fun vs H Q _ => ∃ (G : Hp) (xs : List D) (r : D), Evl.Ex G H ∧ TpA G vs xs ∧ R xs r ∧ ∀ v G' H', Grow G H G' H' → Tp G' v r → Q v H'
/-- .. that gives a new list -/
def SpL (R : List D → List D → Prop) : Sp := fun vs H Q _ => ∃ (G : Hp) (xs : List D) (r : List D), Evl.Ex G H ∧ TpA G vs xs ∧ R xs r ∧ ∀ p ws G' H', Grow G H G' H' → G' p = none → H p = none → H' p = some (.lst ws) → TpA G' ws r → Q (.ref p) H'
theorem ed_call {R : List D → D → Prop} {dvs : List V} {dd : List D} {E : XK} {ta : TA} (h : EdA K ta ds xs) (hd : ∀ G, TpA G dvs dd) (hr : R (xs ++ dd) z) : Ed K (tCall (SpD R) dvs E ta) ds z := fun B G H σ ow E Q q =>
  h B G H σ ow E _ fun vs G1 H1 g1 t1 => ⟨G1, xs ++ dd, z, g1.i, t1.append (hd G1), hr, fun v G2 H2 g2 t2 => q v G2 H2 (g1.trans g2) t2⟩
theorem ed_call0 {R : List D → D → Prop} {E : XK} {ta : TA} (h : EdA K ta ds xs) (hr : R xs z) : Ed K (tCall (SpD R) [] E ta) ds z := ed_call (dd := []) h (fun _ => .nil) (by rw [List.append_nil]; exact hr)
theorem el_call {R : List D → List D → Prop} {dvs : List V} {dd : List D} {E : XK} {ta : TA} (h : EdA K ta ds xs) (hd : ∀ G, TpA G dvs dd) (hr : R (xs ++ dd) ys) : EdL K (tCall (SpL R) dvs E ta) ds ys := fun B G H σ ow E Q q =>
  h B G H σ ow E _ fun vs G1 H1 g1 t1 => ⟨G1, xs ++ dd, ys, g1.i, t1.append (hd G1), hr, fun p ws G2 H2 g2 hg hp h2 t2 => q p ws G2 H2 (g1.trans g2) hg (g1.h.none hp) h2 t2⟩
theorem el_call0 {R : List D → List D → Prop} {E : XK} {ta : TA} (h : EdA K ta ds xs) (hr : R xs ys) : EdL K (tCall (SpL R) [] E ta) ds ys := el_call (dd := []) h (fun _ => .nil) (by rw [List.append_nil]; exact hr)
end
end Wm
set_option Elab.async false
set_option linter.all false
set_option maxRecDepth 100000
set_option maxHeartbeats 4000000
namespace Wm
open PySem PySem.Spec PyProof.Rows L2
def sc : D → Bool
  | .non => true
  | .bl _ => true
  | .int _ => true
  | .str _ => true
  | _ => false
theorem Tp.sc {H G : Hp} {v : V} {d : D} (t : Tp H v d) (h : sc d = true) : Tp G v d := by
  cases t <;> first | exact .non | exact .bl _ | exact .int _ | exact .str _ | cases h
/-- a value to be read, perhaps an own list -/
def EdH (K : PySem.W.Frag) (te : TE) (ds : List Sl) (d : D) : Prop := ∀ (B : Bs) (G H : Hp) (σ : L2.St) (ow : Nat → Option Addr), EnvG K B G H σ ds ow → ∀ Q : VK, (∀ v G' H', Grow G H G' H' → Tp H' v d → Q v H') → te σ H Q
/-- a list to be read, its items kept -/
def EdS (K : PySem.W.Frag) (te : TE) (ds : List Sl) (xs : List D) : Prop := ∀ (B : Bs) (G H : Hp) (σ : L2.St) (ow : Nat → Option Addr), EnvG K B G H σ ds ow → ∀ Q : VK, (∀ p vs G' H', Grow G H G' H' → H' p = some (.lst vs) → TpA G' vs xs → Q (.ref p) H') → te σ H Q
def EdAH (K : PySem.W.Frag) (ta : TA) (ds : List Sl) (xs : List D) : Prop := ∀ (B : Bs) (G H : Hp) (σ : L2.St) (ow : Nat → Option Addr), EnvG K B G H σ ds ow → ∀ Q : List V → Hp → Prop, (∀ vs G' H', Grow G H G' H' → TpA H' vs xs → Q vs H') → ta σ H Q
section
variable {K : PySem.W.Frag} {te ta tb tc : TE} {t u : TT} {ds : List Sl} {d x y z : D} {xs ys : List D}
theorem Ed.h (h : Ed K te ds d) : EdH K te ds d := fun B G H σ ow E Q q => h B G H σ ow E Q fun v G' H' g t => q v G' H' g (t.mono g.i)
theorem EdS.h (h : EdS K te ds xs) : EdH K te ds (.lst xs) := fun B G H σ ow E Q q => h B G H σ ow E Q fun p vs G' H' g h' t => q _ G' H' g (.lst h' (t.mono g.i))
theorem Ed.s (h : Ed K te ds (.lst xs)) : EdS K te ds xs := fun B G H σ ow E Q q => h B G H σ ow E Q fun v G' H' g t => by
  cases t with
  | lst ha ht => exact q _ _ G' H' g (g.i _ _ ha) ht
theorem EdL.s (h : EdL K te ds xs) : EdS K te ds xs := fun B G H σ ow E Q q => h B G H σ ow E Q fun p vs G' H' g _ _ h' t => q p vs G' H' g h' t
theorem es_own {i : Nat} (h : ds[i]? = some (.own xs)) : EdS K (tVar i) ds xs := fun B G H σ ow E Q q => by
  have z := E.at_ i _ h
  cases e : σ[i]? with
  | none => rw [e] at z; exact z.elim
  | some w =>
    cases w with
    | none => rw [e] at z; exact z.elim
    | some v =>
      rw [e] at z
      obtain ⟨p, vs, rfl, _, h1, h2⟩ := z
      exact ⟨_, e, q p vs G H E.ref h1 h2⟩
theorem eah_nil : EdAH K tNil ds [] := fun B G H σ ow E Q q => q [] G H E.ref .nil
theorem eah_cons {tr : TA} (h : EdH K te ds x) (hr : EdAH K tr ds xs) : EdAH K (tCons te tr) ds (x :: xs) := fun B G H σ ow E Q q =>
  h B G H σ ow E _ fun v G1 H1 g1 t1 => hr B G1 H1 σ ow (E.grow g1) _ fun vs G2 H2 g2 t2 => q _ G2 H2 (g1.trans g2) (.cons (t1.mono g2.h) t2)
theorem ed_opH {r : R2} (ha : EdH K ta ds x) (hb : EdH K tb ds y) (h : P2 r x y z) (hs : sc z = true) : Ed K (tOp r ta tb) ds z := fun B G H σ ow E Q q =>
  ha B G H σ ow E _ fun v G1 H1 g1 t1 => hb B G1 H1 σ ow (E.grow g1) _ fun w G2 H2 g2 t2 => by
    obtain ⟨u, tu, k⟩ := h H2 H2 v w (Evl.Ex.refl _) (t1.mono g2.h) t2
    exact k Q (q u G2 H2 (g1.trans g2) (tu.sc hs))
theorem ed_cbH {r : List V → Hp → VK → Prop} {ta : TA} (h : EdAH K ta ds xs) (hr : PC r xs z) (hs : sc z = true) : Ed K (tCB r ta) ds z := fun B G H σ ow E Q q =>
  h B G H σ ow E _ fun vs G1 H1 g1 t1 => by
    obtain ⟨u, tu, k⟩ := hr H1 H1 vs (Evl.Ex.refl _) t1
    exact k Q (q u G1 H1 g1 (tu.sc hs))
theorem ed_callH {R : List D → D → Prop} {E : XK} {ta : TA} (h : EdAH K ta ds xs) (hr : R xs z) (hs : sc z = true) : Ed K (tCall (SpD R) [] E ta) ds z := fun B G H σ ow E Q q =>
  h B G H σ ow E _ fun vs G1 H1 g1 t1 => ⟨H1, xs, z, Evl.Ex.refl _, by rw [List.append_nil]; exact t1, hr, fun v G2 H2 g2 t2 => q v G1 H2 (g1.trans ⟨g2.h, Evl.Ex.refl _, g1.i.trans g2.h, fun _ _ h => .inl h⟩) (t2.sc hs)⟩
/-- == of data, own lists too -/
theorem p2_eqD {p q : PyData} (e1 : py x = some p) (e2 : py y = some q) (s1 : SeqAt.shaped p = true) (s2 : SeqAt.shaped q = true) : P2 (rEqD K) x y (.bl (PyData.eqv p q)) :=
  fun G H v w e t1 t2 => ⟨_, .bl _, fun Q k => ⟨p, q, (t1.mono e).dp e1, (t2.mono e).dp e2, s1, s2, k⟩⟩
theorem p2_neD {p q : PyData} (e1 : py x = some p) (e2 : py y = some q) (s1 : SeqAt.shaped p = true) (s2 : SeqAt.shaped q = true) : P2 (rNeD K) x y (.bl (!PyData.eqv p q)) :=
  fun G H v w e t1 t2 => ⟨_, .bl _, fun Q k => ⟨p, q, (t1.mono e).dp e1, (t2.mono e).dp e2, s1, s2, k⟩⟩

/-! ### items and slices -/
theorem atI_get {α : Type} {xs : List α} {i : Int} {x : α} (h : atI xs i = some x) : ∃ j, ixN xs.length i = some j ∧ xs[j]? = some x := by
  unfold atI at h
  cases e : ixN xs.length i with
  | none => rw [e] at h; cases h
  | some j => rw [e] at h; exact ⟨j, rfl, h⟩
theorem atI_of {α : Type} {xs : List α} {i : Int} {j : Nat} {x : α} (h1 : ixN xs.length i = some j) (h2 : xs[j]? = some x) : atI xs i = some x := by
  unfold atI
  rw [h1]
  exact h2
theorem TpA.atI {G : Hp} {vs : List V} {xs : List D} {i : Int} {d : D} (t : TpA G vs xs) (h : atI xs i = some d) : ∃ v, L2.atI vs i = some v ∧ Tp G v d := by
  obtain ⟨j, h1, h2⟩ := atI_get h
  obtain ⟨v, h3, h4⟩ := t.get h2
  exact ⟨v, atI_of (by rw [t.length]; exact h1) h3, h4⟩
theorem ed_ixL {i : Int} (ha : EdS K ta ds xs) (hb : Ed K tb ds (.int i)) (h : atI xs i = some d) : Ed K (tOp (rIxL K) ta tb) ds d := fun B G H σ ow E Q q =>
  ha B G H σ ow E _ fun p vs G1 H1 g1 h1 t1 => hb B G1 H1 σ ow (E.grow g1) _ fun w G2 H2 g2 t2 => by
    cases t2
    obtain ⟨v, hv, tv⟩ := (t1.mono g2.g).atI h
    exact ⟨p, vs, i, v, rfl, rfl, SqL.of (g2.h _ _ h1), hv, q v G2 H2 (g1.trans g2) tv⟩
theorem ed_ixT {i : Int} (ha : Ed K ta ds (.tup xs)) (hb : Ed K tb ds (.int i)) (h : atI xs i = some d) : Ed K (tOp (rIxT K) ta tb) ds d :=
  ed_op ha hb fun G H v w e t1 t2 => by
    cases t2
    cases t1 with
    | tup h1 t1 =>
      obtain ⟨v, hv, tv⟩ := t1.atI h
      exact ⟨v, tv, fun Q q => ⟨_, _, i, v, rfl, rfl, SqT.of (e _ _ h1), hv, q⟩⟩
theorem ed_ixS {s : Str} {i : Int} {c : Nat} (ha : Ed K ta ds (.str s)) (hb : Ed K tb ds (.int i)) (hl : s.length ≤ sizeLine) (h : atI s.cps.toList i = some c) : Ed K (tOp rIxS ta tb) ds (.str ⟨#[c]⟩) :=
  ed_op ha hb fun G H v w e t1 t2 => by cases t1; cases t2; exact ⟨_, .str _, fun Q q => ⟨s, i, c, rfl, rfl, hl, h, q⟩⟩
/-- the script's items -/
theorem ed_ixScr {ns : List Int} {i n : Int} (ha : Ed K ta ds (.scr K ns)) (hb : Ed K tb ds (.int i)) (h : atI ns i = some n) : Ed K (tOp (rIxL K) ta tb) ds (.int n) :=
  ed_op ha hb fun G H v w e t1 t2 => by
    cases t2
    cases t1 with
    | scr h1 =>
      obtain ⟨j, h2, h3⟩ := atI_get h
      exact ⟨_, .int n, fun Q q => ⟨_, _, i, .int n, rfl, rfl, e.seq h1, atI_of (by rw [List.length_map]; exact h2) (by rw [List.getElem?_map, h3]; rfl), q⟩⟩
theorem eo_none : EdO K tNoPart ds none := fun B G H σ ow E Q q => q G H E.ref
theorem eo_some {i : Int} (h : Ed K te ds (.int i)) : EdO K (tPart te) ds (some i) := fun B G H σ ow E Q q => h B G H σ ow E _ fun v G1 H1 g1 t1 => by cases t1; exact ⟨i, rfl, q G1 H1 g1⟩
theorem ed_slS {tl th : TO} {s : Str} {lo hi : Option Int} (h : Ed K te ds (.str s)) (h1 : EdO K tl ds lo) (h2 : EdO K th ds hi) (hl : s.length ≤ sizeLine) : Ed K (tSl rSlS te tl th) ds (.str (cutS s lo hi)) := fun B G H σ ow E Q q =>
  h B G H σ ow E _ fun v G1 H1 g1 t1 => h1 B G1 H1 σ ow (E.grow g1) _ fun G2 H2 g2 => h2 B G2 H2 σ ow ((E.grow g1).grow g2) _ fun G3 H3 g3 => by
    cases t1
    exact ⟨s, rfl, hl, q _ G3 H3 ((g1.trans g2).trans g3) (.str _)⟩
def cutD (xs : List D) (lo hi : Option Int) : List D := (xs.drop (HT.sIx xs.length 0 lo)).take (HT.sIx xs.length xs.length hi - HT.sIx xs.length 0 lo)
theorem el_slL {tl th : TO} {lo hi : Option Int} (h : EdS K te ds xs) (h1 : EdO K tl ds lo) (h2 : EdO K th ds hi) : EdL K (tSl (rSlL K) te tl th) ds (cutD xs lo hi) := fun B G H σ ow E Q q =>
  h B G H σ ow E _ fun p vs G1 H1 g1 hp t1 => h1 B G1 H1 σ ow (E.grow g1) _ fun G2 H2 g2 => h2 B G2 H2 σ ow ((E.grow g1).grow g2) _ fun G3 H3 g3 => by
    refine ⟨p, vs, rfl, SqL.of (g3.h _ _ (g2.h _ _ hp)), fun l hl => ?_⟩
    have g := (g1.trans g2).trans g3
    refine q l _ G3 _ (g.trans (Grow.newH g3.i hl)) (g3.i.none hl) (g.h.none hl) upd_same ?_
    have tt := t1.mono (g2.g.trans g3.g)
    unfold cutV cutD
    rw [tt.length]
    exact (tt.drop _).take _
theorem el_slScr {ns : List Int} {tl th : TO} {lo hi : Option Int} (h : Ed K te ds (.scr K ns)) (h1 : EdO K tl ds lo) (h2 : EdO K th ds hi) : EdL K (tSl (rSlL K) te tl th) ds (cutD (ns.map D.int) lo hi) := fun B G H σ ow E Q q =>
  h B G H σ ow E _ fun v G1 H1 g1 t1 => h1 B G1 H1 σ ow (E.grow g1) _ fun G2 H2 g2 => h2 B G2 H2 σ ow ((E.grow g1).grow g2) _ fun G3 H3 g3 => by
    cases t1 with
    | scr hs =>
      refine ⟨_, _, rfl, (g3.h.seq (g2.h.seq (g1.i.seq hs))), fun l hl => ?_⟩
      have g := (g1.trans g2).trans g3
      refine q l _ G3 _ (g.trans (Grow.newH g3.i hl)) (g3.i.none hl) (g.h.none hl) upd_same ?_
      have tt : TpA G3 (ns.map V.int) (ns.map D.int) := TpA.ints ns
      unfold cutV cutD
      rw [tt.length]
      exact (tt.drop _).take _

/-! ### built-in functions by values -/
theorem lenV_of {G H : Hp} {p : Addr} {vs : List V} {n : Nat} (h : H p = some (.lst vs)) : LenV K (.ref p) H vs.length := .inl ⟨_, SqL.of h, rfl⟩
abbrev rLen (K : PySem.W.Frag) : List V → Hp → VK → Prop := fun xs H Q => ∃ x n, xs = [x] ∧ LenV K x H n ∧ Q (.int n) H
theorem pc_lenL : PC (rLen K) [.lst xs] (.int (xs.length : Int)) := fun G H vs e t => by
  cases t with
  | cons h r =>
    cases r
    cases h with
    | lst ha ht => exact ⟨_, .int _, fun Q q => ⟨_, xs.length, rfl, .inl ⟨_, SqL.of (e _ _ ha), ht.length.symm⟩, q⟩⟩
theorem pc_lenT : PC (rLen K) [.tup xs] (.int (xs.length : Int)) := fun G H vs e t => by
  cases t with
  | cons h r =>
    cases r
    cases h with
    | tup ha ht => exact ⟨_, .int _, fun Q q => ⟨_, xs.length, rfl, .inr ⟨_, SqT.of (e _ _ ha), ht.length.symm⟩, q⟩⟩
theorem pc_lenS {s : Str} (hl : s.length ≤ sizeLine) : PC (rLen K) [.str s] (.int (s.length : Int)) := fun G H vs e t => by
  cases t with
  | cons h r =>
    cases r
    cases h
    exact ⟨_, .int _, fun Q q => ⟨_, s.length, rfl, ⟨hl, rfl⟩, q⟩⟩
theorem pc_lenScr {ns : List Int} : PC (rLen K) [.scr K ns] (.int (ns.length : Int)) := fun G H vs e t => by
  cases t with
  | cons h r =>
    cases r
    cases h with
    | scr hs => exact ⟨_, .int _, fun Q q => ⟨_, ns.length, rfl, .inl ⟨_, e.seq hs, by rw [List.length_map]⟩, q⟩⟩
abbrev rInt1 : List V → Hp → VK → Prop := fun xs H Q => (∃ i, xs = [.int i] ∧ Q (.int i) H) ∨ ∃ k, xs = [.bl k] ∧ Q (.int (if k then 1 else 0)) H
theorem pc_intB {b : Bool} : PC rInt1 [.bl b] (.int (if b then 1 else 0)) := fun G H vs e t => by
  cases t with
  | cons h r =>
    cases r
    cases h
    exact ⟨_, .int _, fun Q q => .inr ⟨b, rfl, q⟩⟩
abbrev rMin2 : List V → Hp → VK → Prop := fun xs H Q => ∃ i j, xs = [.int i, .int j] ∧ Q (.int (if j < i then j else i)) H
theorem pc_min2 {i j : Int} : PC rMin2 [.int i, .int j] (.int (if j < i then j else i)) := fun G H vs e t => by
  cases t with
  | cons h r =>
    cases r with
    | cons h2 r =>
      cases r
      cases h
      cases h2
      exact ⟨_, .int _, fun Q q => ⟨i, j, rfl, q⟩⟩
abbrev rMax2 : List V → Hp → VK → Prop := fun xs H Q => ∃ i j, xs = [.int i, .int j] ∧ Q (.int (if j > i then j else i)) H
theorem pc_max2 {i j : Int} : PC rMax2 [.int i, .int j] (.int (if j > i then j else i)) := fun G H vs e t => by
  cases t with
  | cons h r =>
    cases r with
    | cons h2 r =>
      cases r
      cases h
      cases h2
      exact ⟨_, .int _, fun Q q => ⟨i, j, rfl, q⟩⟩
theorem pc_all {bs : List Bool} : PC (rAll K) [.lst (bs.map D.bl)] (.bl (bs.all id)) := fun G H vs e t => by
  cases t with
  | cons h r =>
    cases r
    cases h with
    | lst ha ht =>
      have z := ht.of_bls
      subst z
      exact ⟨_, .bl _, fun Q q => ⟨_, bs, rfl, SqL.of (e _ _ ha), q⟩⟩
theorem pc_any {bs : List Bool} : PC (rAny K) [.lst (bs.map D.bl)] (.bl (bs.any id)) := fun G H vs e t => by
  cases t with
  | cons h r =>
    cases r
    cases h with
    | lst ha ht =>
      have z := ht.of_bls
      subst z
      exact ⟨_, .bl _, fun Q q => ⟨_, bs, rfl, SqL.of (e _ _ ha), q⟩⟩
/-- s.join(xs) -/
abbrev rJoin (K : PySem.W.Frag) : V → List V → Hp → VK → Prop := fun x xs H Q => ∃ a p, ∃ ys : List Str, x = .str a ∧ xs = [.ref p] ∧ (SqL K H p (ys.map V.str) ∨ SqT K H p (ys.map V.str)) ∧ (ys.map (·.length)).sum + ys.length * a.length ≤ 16777216 ∧ Q (.str (Txt.join a ys)) H
theorem ed_join {a : Str} {ys : List Str} (ha : Ed K ta ds (.str a)) (hb : EdS K tb ds (ys.map D.str)) (hl : (ys.map (·.length)).sum + ys.length * a.length ≤ 16777216) : Ed K (tBM K "str" (rJoin K) ta (tCons tb tNil)) ds (.str (Txt.join a ys)) := fun B G H σ ow E Q q =>
  ha B G H σ ow E _ fun v G1 H1 g1 t1 => by
    cases t1
    refine ⟨by first | rfl | exact True.intro | exact ⟨_, rfl⟩, hb B G1 H1 σ ow (E.grow g1) _ fun p vs G2 H2 g2 hp t2 => ?_⟩
    have z := t2.of_strs
    subst z
    exact ⟨a, p, ys, rfl, rfl, .inl (SqL.of hp), hl, q _ G2 H2 (g1.trans g2) (.str _)⟩
/-- xs * k, xs + ys -/
theorem el_rep {k : Int} (ha : EdS K ta ds xs) (hb : Ed K tb ds (.int k)) (h1 : -(2 ^ 63) ≤ k) (h2 : k < 2 ^ 63) (h3 : xs.length * k.toNat ≤ sizeLine) : EdL K (tOp rRep ta tb) ds (List.replicate k.toNat xs).flatten := fun B G H σ ow E Q q =>
  ha B G H σ ow E _ fun p vs G1 H1 g1 hp t1 => hb B G1 H1 σ ow (E.grow g1) _ fun w G2 H2 g2 t2 => by
    cases t2
    exact ⟨p, k, vs, rfl, rfl, g2.h _ _ hp, h1, h2, by rw [t1.length]; exact h3, fun l hl =>
      q l _ G2 _ ((g1.trans g2).trans (Grow.newH g2.i hl)) (g2.i.none hl) ((g1.trans g2).h.none hl) upd_same ((t1.mono g2.g).flatten_replicate _)⟩
theorem el_cat (ha : EdS K ta ds xs) (hb : EdS K tb ds ys) (h3 : xs.length + ys.length ≤ sizeLine) : EdL K (tOp rCat ta tb) ds (xs ++ ys) := fun B G H σ ow E Q q =>
  ha B G H σ ow E _ fun p vs G1 H1 g1 hp t1 => hb B G1 H1 σ ow (E.grow g1) _ fun p2 ws G2 H2 g2 hp2 t2 =>
    ⟨p, p2, vs, ws, rfl, rfl, g2.h _ _ hp, hp2, by rw [t1.length, t2.length]; exact h3, fun l hl =>
      q l _ G2 _ ((g1.trans g2).trans (Grow.newH g2.i hl)) (g2.i.none hl) ((g1.trans g2).h.none hl) upd_same ((t1.mono g2.g).append t2)⟩
/-- list(xs), list(t) -/
abbrev rListOf (K : PySem.W.Frag) : List V → Hp → VK → Prop := fun xs H Q => ∃ p ys, xs = [.ref p] ∧ (SqL K H p ys ∨ SqT K H p ys) ∧ ∀ l, H l = none → Q (.ref l) (upd H l (.lst ys))
theorem el_listOf (ha : EdS K ta ds xs) : EdL K (tCB (rListOf K) (tCons ta tNil)) ds xs := fun B G H σ ow E Q q =>
  ha B G H σ ow E _ fun p vs G1 H1 g1 hp t1 => ⟨p, vs, rfl, .inl (SqL.of hp), fun l hl => q l vs G1 _ (g1.trans (Grow.newH g1.i hl)) (g1.i.none hl) (g1.h.none hl) upd_same t1⟩
/-- x in xs, of flat things -/
def flatD : D → Bool
  | .non => true
  | .bl _ => true
  | .int _ => true
  | .str _ => true
  | _ => false
def eqD : D → D → Bool
  | .non, .non => true
  | .bl a, .bl b => a == b
  | .bl a, .int j => (if a then 1 else 0) == j
  | .int i, .bl b => i == (if b then 1 else 0)
  | .int i, .int j => i == j
  | .str a, .str b => a == b
  | _, _ => false

/-! ### fields of instances that stand -/
theorem TpF.get {G : Hp} {f : Str} : ∀ {vs : List (Str × V)} {gs : List (Str × D)} {d : D}, TpF G vs gs → gs.lookup f = some d → ∃ v, vs.lookup f = some v ∧ Tp G v d
  | _, _, _, .nil, e => by cases e
  | (g, v) :: vs, (_, d') :: gs, d, .cons h t, e => by
    rw [List.lookup_cons] at e ⊢
    cases q : (f == g) with
    | true => rw [q] at e; cases e; exact ⟨v, rfl, h⟩
    | false => rw [q] at e; exact TpF.get t e
theorem TpF.none {G : Hp} {f : Str} : ∀ {vs : List (Str × V)} {gs : List (Str × D)}, TpF G vs gs → gs.lookup f = Option.none → vs.lookup f = Option.none
  | _, _, .nil, e => rfl
  | (g, v) :: vs, (_, d') :: gs, .cons h t, e => by
    rw [List.lookup_cons] at e ⊢
    cases q : (f == g) with
    | true => rw [q] at e; cases e
    | false => rw [q] at e; exact TpF.none t e
theorem TpF.put {G : Hp} {f : Str} {v : V} {d : D} (r : Tp G v d) : ∀ {vs : List (Str × V)} {gs : List (Str × D)}, TpF G vs gs → ∃ gs', TpF G (putF f v vs) gs' ∧ (gs'.length = gs.length ∨ gs'.length = gs.length + 1)
  | _, _, .nil => ⟨[(f, d)], .cons r .nil, .inr rfl⟩
  | (g, w) :: vs, (_, d') :: gs, .cons h t => by
    obtain ⟨gs', h1, h2⟩ := TpF.put r t
    unfold putF
    by_cases e : g = f
    · rw [if_pos e]; subst e; exact ⟨(g, d) :: gs, .cons r t, .inl rfl⟩
    · rw [if_neg e]; exact ⟨(g, d') :: gs', .cons h h1, by simp only [List.length_cons]; omega⟩
theorem ed_fld {C : Addr} {fs : List (Str × D)} {f : Str} (ha : Ed K te ds (.ins C fs)) (hc : Cls K C) (hn : NoAttr K C f) (hl : fs.lookup f = some d) : Ed K (tFld K te f) ds d := fun B G H σ ow E Q q =>
  ha B G H σ ow E _ fun v G1 H1 g1 t1 => by
    cases t1 with
    | ins h1 tf =>
      obtain ⟨w, hw, tw⟩ := tf.get hl
      exact ⟨_, C, _, _, w, rfl, g1.i _ _ h1, hc, hn, hw, q w G1 H1 g1 tw⟩
/-- a method of an instance that stands -/
theorem ed_meth {C : Addr} {fs : List (Str × D)} {m : Str} {R : List D → D → Prop} {dvs : List V} {dd : List D} {Ex' : XK} {ta' : TA} (ha : Ed K te ds (.ins C fs)) (hm : fs.lookup m = none) (h : EdA K ta' ds xs) (hd : ∀ G, TpA G dvs dd) (hr : R (.ins C fs :: (xs ++ dd)) z) :
    Ed K (tMeth C m (SpD R) dvs Ex' te ta') ds z := fun B G H σ ow E Q q =>
  ha B G H σ ow E _ fun v G1 H1 g1 t1 => by
    have t1' := t1
    cases t1 with
    | ins h1 tf =>
      refine ⟨_, _, _, rfl, g1.i _ _ h1, tf.none hm, h B G1 H1 σ ow (E.grow g1) _ fun vs G2 H2 g2 t2 => ?_⟩
      exact ⟨G2, _, z, g2.i, .cons (t1'.mono g2.g) (t2.append (hd G2)), hr, fun v G3 H3 g3 t3 => q v G3 H3 ((g1.trans g2).trans g3) t3⟩
end

/-! ### statements -/
section
variable {K : PySem.W.Frag} {B : Bs} {H : Hp} {σ : L2.St} {ds : List Sl} {Dn : Ends} {te ta tb : TE} {t : TT} {d : D} {xs : List D} {tu tw tz : TS}
theorem s_asg {i : Nat} (E : Env K B H σ ds) (h : Ed K te ds d) (k : ∀ σ' H', Env K B H' σ' (ds.set i (.dat d)) → Dn.nx σ' H') : tAsg te (gName i) Dn σ H := by
  obtain ⟨G, ow, E⟩ := E
  exact h B G H σ ow E _ fun v G1 H1 g1 t1 => k _ _ ⟨G1, _, (E.grow g1).setD i t1⟩
theorem s_asgL {i : Nat} (E : Env K B H σ ds) (h : EdL K te ds xs) (hi : i < ds.length) (k : ∀ σ' H', Env K B H' σ' (ds.set i (.own xs)) → Dn.nx σ' H') : tAsg te (gName i) Dn σ H := by
  obtain ⟨G, ow, E⟩ := E
  refine h B G H σ ow E _ fun p vs G1 H1 g1 hg hp h1 t1 => k _ _ ⟨G1, _, (E.grow g1).setO i hi (p := p) ⟨p, vs, rfl, rfl, h1, t1⟩ hg (E.gr.h.none hp) fun j _ q => ?_⟩
  exact E.live q hp
theorem s_ret (E : Env K B H σ ds) (h : Ed K te ds d) (k : ∀ v G' H', Grow B.G B.H G' H' → Tp G' v d → Dn.rt v H') : tRet te Dn σ H := by
  obtain ⟨G, ow, E⟩ := E
  exact h B G H σ ow E _ fun v G1 H1 g1 t1 => k v G1 H1 (E.gr.trans g1) t1
theorem s_retL (E : Env K B H σ ds) (h : EdL K te ds xs) (k : ∀ p vs G' H', Grow B.G B.H G' H' → G' p = none → B.H p = none → H' p = some (.lst vs) → TpA G' vs xs → Dn.rt (.ref p) H') : tRet te Dn σ H := by
  obtain ⟨G, ow, E⟩ := E
  exact h B G H σ ow E _ fun p vs G1 H1 g1 hg hp h1 t1 => k p vs G1 H1 (E.gr.trans g1) hg (E.gr.h.none hp) h1 t1
/-- return of an own list -/
theorem s_retO {i : Nat} (E : Env K B H σ ds) (h : ds[i]? = some (.own xs)) (k : ∀ p vs G' H', Grow B.G B.H G' H' → G' p = none → B.H p = none → H' p = some (.lst vs) → TpA G' vs xs → Dn.rt (.ref p) H') : tRet (tVar i) Dn σ H := by
  obtain ⟨G, ow, E⟩ := E
  have z := E.at_ i _ h
  cases e : σ[i]? with
  | none => rw [e] at z; exact z.elim
  | some w =>
    cases w with
    | none => rw [e] at z; exact z.elim
    | some v =>
      rw [e] at z
      obtain ⟨p, vs, rfl, ho, h1, h2⟩ := z
      exact ⟨_, e, k p vs G H E.gr (E.dis i p ho).1 (E.dis i p ho).2 h1 h2⟩
theorem s_if {b : Bool} (E : Env K B H σ ds) (h : EdT K t ds b) (h1 : b = true → ∀ H', Env K B H' σ ds → tu Dn σ H') (h2 : b = false → ∀ H', Env K B H' σ ds → tw Dn σ H') : tIfS t tu tw Dn σ H := by
  obtain ⟨G, ow, E⟩ := E
  refine h B G H σ ow E _ fun G1 H1 g1 => ?_
  cases b with
  | true => exact h1 rfl H1 ⟨G1, ow, E.grow g1⟩
  | false => exact h2 rfl H1 ⟨G1, ow, E.grow g1⟩
theorem s_drop (E : Env K B H σ ds) (h : Ed K te ds d) (k : ∀ H', Env K B H' σ ds → Dn.nx σ H') : tDrop te Dn σ H := by
  obtain ⟨G, ow, E⟩ := E
  exact h B G H σ ow E _ fun v G1 H1 g1 t1 => k _ ⟨G1, _, E.grow g1⟩
/-- an own list is data from here on -/
theorem Env.freeze {i : Nat} (E : Env K B H σ ds) (h : ds[i]? = some (.own xs)) : Env K B H σ (ds.set i (.dat (.lst xs))) := by
  obtain ⟨G, ow, E⟩ := E
  have z := E.at_ i _ h
  cases e : σ[i]? with
  | none => rw [e] at z; exact z.elim
  | some w =>
    cases w with
    | none => rw [e] at z; exact z.elim
    | some v =>
      rw [e] at z
      obtain ⟨p, vs, rfl, ho, h1, h2⟩ := z
      have hg := (E.dis i p ho)
      have g : Grow B.G B.H (upd G p (.lst vs)) H := E.gr.take hg.2 h1 hg.1
      have eg : Evl.Ex G (upd G p (.lst vs)) := Evl.Ex.new hg.1
      refine ⟨upd G p (.lst vs), fun j => if j = i then none else ow j, g, E.anc.trans eg, fun j q hq => ?_, fun j k q r s => ?_, by rw [List.length_set]; exact E.len, fun j s hs => ?_, fun j hj => ?_⟩
      · by_cases e : j = i
        · rw [if_pos e] at hq; cases hq
        · rw [if_neg e] at hq
          have n : q ≠ p := fun z => e (E.inj j i p (z ▸ hq) ho)
          exact ⟨by rw [upd_ne n]; exact (E.dis j q hq).1, (E.dis j q hq).2⟩
      · by_cases e : j = i
        · rw [if_pos e] at r; cases r
        · by_cases e2 : k = i
          · rw [if_pos e2] at s; cases s
          · rw [if_neg e] at r; rw [if_neg e2] at s; exact E.inj j k q r s
      · by_cases ej : j = i
        · subst ej
          have hl := (List.getElem?_eq_some_iff.mp h).1
          rw [List.getElem?_set_self hl] at hs
          cases hs
          rw [e, if_pos rfl]
          exact ⟨rfl, .lst upd_same (h2.mono eg)⟩
        · rw [List.getElem?_set_ne (Ne.symm ej)] at hs
          rw [if_neg ej]
          exact (E.at_ j s hs).up eg (Evl.Ex.refl _)
      · by_cases e : j = i
        · rw [if_pos e]
        · rw [if_neg e]; exact E.hi j (by rw [List.length_set] at hj; exact hj)
end
end Wm
set_option Elab.async false
set_option linter.all false
set_option maxRecDepth 100000
set_option maxHeartbeats 4000000
namespace Wm
open PySem PySem.Spec PyProof.Rows L2
theorem Grow.out {G H G' H' : Hp} {p : Addr} {o : HO} (g : Grow G H G' H') (h0 : H p = none) (hg : G' p = none) : Grow G H G' (upd H' p o) := ⟨g.h.out h0, g.g, g.i.out hg, g.n⟩
theorem Grow.lack {G H G' H' : Hp} {p : Addr} (g : Grow G H G' H') (h0 : H p ≠ none) (hg : G p = none) : G' p = none := by
  cases e : G' p with
  | none => rfl
  | some o =>
    rcases g.n p o e with q | q
    · rw [hg] at q; cases q
    · exact absurd q h0

/-! ### targets -/
def AgreeOut (σ σ' : L2.St) (js : List Nat) : Prop := σ'.length = σ.length ∧ ∀ i, i ∉ js → σ'[i]? = σ[i]?
def EdG (K : PySem.W.Frag) (g : TG) (ds : List Sl) (d : D) (ds' : List Sl) (js : List Nat) : Prop := ∀ (B : Bs) (G H : Hp) (σ : L2.St) (ow : Nat → Option Addr) (v : V), EnvG K B G H σ ds ow → Tp G v d → ∀ Q : L2.St → Hp → Prop, (∀ σ' ow', EnvG K B G H σ' ds' ow' → AgreeOut σ σ' js → Q σ' H) → g v σ H Q
def EdGs (K : PySem.W.Frag) (g : TGs) (ds : List Sl) (xs : List D) (ds' : List Sl) (js : List Nat) : Prop := ∀ (B : Bs) (G H : Hp) (σ : L2.St) (ow : Nat → Option Addr) (vs : List V), EnvG K B G H σ ds ow → TpA G vs xs → ∀ Q : L2.St → Hp → Prop, (∀ σ' ow', EnvG K B G H σ' ds' ow' → AgreeOut σ σ' js → Q σ' H) → g vs σ H Q
section
variable {K : PySem.W.Frag} {ds ds' ds2 : List Sl} {d : D} {xs : List D} {js ks : List Nat}
theorem eg_name {i : Nat} : EdG K (gName i) ds d (ds.set i (.dat d)) [i] := fun B G H σ ow v E t Q q => q _ _ (E.setD i t) ⟨List.length_set, fun j hj => List.getElem?_set_ne fun e => hj (by rw [e]; exact List.mem_singleton.mpr rfl)⟩
theorem egs_nil : EdGs K gNil ds [] ds [] := fun B G H σ ow vs E t Q q => by cases t; exact ⟨rfl, q σ ow E ⟨rfl, fun _ _ => rfl⟩⟩
theorem egs_cons {t : TG} {u : TGs} (h : EdG K t ds d ds' js) (hr : EdGs K u ds' xs ds2 ks) : EdGs K (gCons t u) ds (d :: xs) ds2 (js ++ ks) := fun B G H σ ow vs E t Q q => by
  cases t with
  | cons h1 h2 =>
    exact ⟨_, _, rfl, h B G H σ ow _ E h1 _ fun σ1 ow1 E1 a1 => hr B G H σ1 ow1 _ E1 h2 _ fun σ2 ow2 E2 a2 => q σ2 ow2 E2 ⟨a2.1.trans a1.1, fun i hi =>
      (a2.2 i fun z => hi (List.mem_append_right _ z)).trans (a1.2 i fun z => hi (List.mem_append_left _ z))⟩⟩
theorem eg_tup {n : Nat} {t : TGs} (h : EdGs K t ds xs ds' js) (hn : xs.length = n) : EdG K (gTup K n t) ds (.tup xs) ds' js := fun B G H σ ow v E t Q q => by
  cases t with
  | tup h1 t1 => exact ⟨_, _, rfl, SqT.of (E.gr.i _ _ h1), by rw [t1.length]; exact hn, h B G H σ ow _ E t1 Q q⟩
theorem s_asgG {B : Bs} {H : Hp} {σ : L2.St} {Dn : Ends} {te : TE} {g : TG} (E : Env K B H σ ds) (h : Ed K te ds d) (hg : EdG K g ds d ds' js) (k : ∀ σ' H', Env K B H' σ' ds' → Dn.nx σ' H') : tAsg te g Dn σ H := by
  obtain ⟨G, ow, E⟩ := E
  exact h B G H σ ow E _ fun v G1 H1 g1 t1 => hg B G1 H1 σ ow v (E.grow g1) t1 _ fun σ' ow' E' _ => k σ' H1 ⟨G1, ow', E'⟩
end

/-! ### what is walked -/
def YD (G0 : Hp) (xs : List D) : Nat → Hp → V → Hp → Prop := fun i H v H' => ∀ G1, Evl.Ex G0 G1 → Evl.Ex G1 H → ∃ G2 d, Grow G1 H G2 H' ∧ xs[i]? = some d ∧ Tp G2 v d
def EdI (K : PySem.W.Frag) (wi : TI) (ds : List Sl) (xs : List D) : Prop := ∀ (B : Bs) (G H : Hp) (σ : L2.St) (ow : Nat → Option Addr), EnvG K B G H σ ds ow → ∀ R : It → Hp → Prop,
  (∀ J G' H', Grow G H G' H' → Walk J xs.length (fun H2 => Evl.Ex G' H2) (YD G' xs) → R J H') → wi σ H R
section
variable {K : PySem.W.Frag} {te ta tb : TE} {ds : List Sl} {d x y z : D} {xs ys : List D}
theorem yd_here {G0 G1 H : Hp} {v : V} {d : D} {i : Nat} (e : Evl.Ex G1 H) (h : xs[i]? = some d) (t : Tp G1 v d) : ∃ G2 d, Grow G1 H G2 H ∧ xs[i]? = some d ∧ Tp G2 v d := ⟨G1, d, Grow.refl e, h, t⟩
theorem ei_list (h : Ed K te ds (.lst xs)) : EdI K (iList K te) ds xs := fun B G H σ ow E R q => h B G H σ ow E _ fun v G1 H1 g1 t1 => by
  cases t1 with
  | lst h1 t1 =>
    rename_i a vs
    refine ⟨a, rfl, ⟨vs, SqL.of (g1.i _ _ h1)⟩, q _ G1 H1 g1 ?_⟩
    have w := walk_list (K := K) (a := a) (xs := vs)
    rw [t1.length] at w
    exact w.mono (fun H2 e => SqL.of (e _ _ h1)) fun i H2 v H3 hi e y G2 e1 e2 => by
      obtain ⟨rfl, y⟩ := y
      obtain ⟨d, hd, td⟩ := t1.get' y
      exact yd_here (G0 := G1) e2 hd (td.mono e1)
theorem ei_tup (h : Ed K te ds (.tup xs)) : EdI K (iTup K te) ds xs := fun B G H σ ow E R q => h B G H σ ow E _ fun v G1 H1 g1 t1 => by
  cases t1 with
  | tup h1 t1 =>
    rename_i a vs
    refine ⟨a, rfl, ⟨vs, SqT.of (g1.i _ _ h1)⟩, q _ G1 H1 g1 ?_⟩
    have w := walk_tup (K := K) (a := a) (xs := vs)
    rw [t1.length] at w
    exact w.mono (fun H2 e => SqT.of (e _ _ h1)) fun i H2 v H3 hi e y G2 e1 e2 => by
      obtain ⟨rfl, y⟩ := y
      obtain ⟨d, hd, td⟩ := t1.get' y
      exact yd_here (G0 := G1) e2 hd (td.mono e1)
/-- range(n), range(a, b) -/
def rngD (lo : Int) (n : Nat) : List D := (List.range n).map fun (i : Nat) => D.int (lo + (i : Int))
theorem rngD_len (lo : Int) (n : Nat) : (rngD lo n).length = n := by unfold rngD; rw [List.length_map, List.length_range]
theorem rngD_get {lo : Int} {n i : Nat} (h : i < n) : (rngD lo n)[i]? = some (.int (lo + (i : Int))) := by
  unfold rngD
  rw [List.getElem?_map, List.getElem?_range h]
  rfl
theorem ei_rng1 {ta : TA} {n : Int} (h : EdA K ta ds [.int n]) (h1 : -(2 ^ 62) ≤ n) (h2 : n < 2 ^ 62) : EdI K (iRng1 ta) ds (rngD 0 n.toNat) := fun B G H σ ow E R q => h B G H σ ow E _ fun vs G1 H1 g1 t1 => by
  cases t1 with
  | cons t1 r =>
    cases r
    cases t1
    refine ⟨n, rfl, h1, h2, q _ G1 H1 g1 ?_⟩
    rw [rngD_len]
    exact walk_range.mono (fun _ _ => trivial) fun i H2 v H3 hi e y G2 e1 e2 => by
      obtain ⟨rfl, rfl⟩ := y
      exact yd_here (G0 := G1) e2 (rngD_get hi) (.int _)
theorem ei_rng2 {ta : TA} {m n : Int} (h : EdA K ta ds [.int m, .int n]) (h1 : -(2 ^ 62) ≤ m ∧ m < 2 ^ 62 ∧ -(2 ^ 62) ≤ n ∧ n < 2 ^ 62) : EdI K (iRng2 ta) ds (rngD m (n - m).toNat) := fun B G H σ ow E R q => h B G H σ ow E _ fun vs G1 H1 g1 t1 => by
  cases t1 with
  | cons t1 r =>
    cases r with
    | cons t2 r =>
      cases r
      cases t1
      cases t2
      refine ⟨m, n, rfl, h1, q _ G1 H1 g1 ?_⟩
      rw [rngD_len]
      exact walk_range.mono (fun _ _ => trivial) fun i H2 v H3 hi e y G2 e1 e2 => by
        obtain ⟨rfl, rfl⟩ := y
        exact yd_here (G0 := G1) e2 (rngD_get hi) (.int _)
/-- the signs of a text -/
def signs (s : Str) : List D := s.cps.toList.map fun c => D.str ⟨#[c]⟩
theorem ei_str {s : Str} (h : Ed K te ds (.str s)) : EdI K (iStr te) ds (signs s) := fun B G H σ ow E R q => h B G H σ ow E _ fun v G1 H1 g1 t1 => by
  cases t1
  refine ⟨s, rfl, q _ G1 H1 g1 ?_⟩
  have hl : (signs s).length = s.cps.size := by unfold signs; rw [List.length_map, Array.length_toList]
  rw [hl]
  exact walk_str.mono (fun _ _ => trivial) fun i H2 v H3 hi e y G2 e1 e2 => by
    obtain ⟨rfl, c, hc, rfl⟩ := y
    refine yd_here (G0 := G1) e2 (d := .str ⟨#[c]⟩) ?_ (.str _)
    unfold signs
    rw [List.getElem?_map, Array.getElem?_toList, hc]
    rfl
/-- pairs -/
def enumD (xs : List D) : List D := xs.zipIdx.map fun p => D.tup [.int (p.2 : Nat), p.1]
theorem enumD_len (xs : List D) : (enumD xs).length = xs.length := by unfold enumD; rw [List.length_map, List.length_zipIdx]
theorem enumD_get {xs : List D} {i : Nat} {d : D} (h : xs[i]? = some d) : (enumD xs)[i]? = some (.tup [.int (i : Nat), d]) := by
  unfold enumD
  rw [List.getElem?_map, List.getElem?_zipIdx, h]
  simp
theorem yd_pair {G1 H H' : Hp} {v : V} {x y : V} {dx dy : D} {T : Addr} (e : Evl.Ex G1 H) (hT : H T = none) (hH : H' = upd H T (.tup [x, y])) (hv : v = .ref T) (tx : Tp G1 x dx) (ty : Tp G1 y dy) {i : Nat} (h : xs[i]? = some (.tup [dx, dy])) :
    ∃ G2 d, Grow G1 H G2 H' ∧ xs[i]? = some d ∧ Tp G2 v d := by
  subst hH hv
  have n := Evl.Ex.new (o := .tup [x, y]) (e.none hT)
  exact ⟨_, _, Grow.new e hT, h, .tup upd_same (.cons (tx.mono n) (.cons (ty.mono n) .nil))⟩
theorem ei_enum {ta : TA} (h : EdA K ta ds [.lst xs]) : EdI K (iEnum K ta) ds (enumD xs) := fun B G H σ ow E R q => h B G H σ ow E _ fun vs G1 H1 g1 t1 => by
  cases t1 with
  | cons t1 r =>
    cases r
    cases t1 with
    | lst h1 t1 =>
      rename_i a vs
      refine ⟨a, vs, rfl, SqL.of (g1.i _ _ h1), q _ G1 H1 g1 ?_⟩
      have w := walk_enum (K := K) (a := a) (xs := vs)
      rw [t1.length, ← enumD_len] at w
      exact w.mono (fun H2 e => SqL.of (e _ _ h1)) fun i H2 v H3 hi e y G2 e1 e2 => by
        obtain ⟨T, x, z, hv, hT, hH, hx, hz⟩ := y
        cases hx
        obtain ⟨d, hd, td⟩ := t1.get' hz
        exact yd_pair e2 hT hH hv (.int _) (td.mono e1) (enumD_get hd)
def zipD (xs ys : List D) : List D := (xs.zip ys).map fun p => D.tup [p.1, p.2]
theorem ei_zip {ta : TA} (h : EdA K ta ds [.lst xs, .lst ys]) : EdI K (iZip K ta) ds (zipD xs ys) := fun B G H σ ow E R q => h B G H σ ow E _ fun vs G1 H1 g1 t1 => by
  cases t1 with
  | cons t1 r =>
    cases r with
    | cons t2 r =>
      cases r
      cases t1 with
      | lst h1 t1 =>
        cases t2 with
        | lst h2 t2 =>
          rename_i a vs b ws
          refine ⟨a, b, vs, ws, rfl, SqL.of (g1.i _ _ h1), SqL.of (g1.i _ _ h2), q _ G1 H1 g1 ?_⟩
          have w := walk_zip (K := K) (a := a) (b := b) (xs := vs) (ys := ws) (n := (zipD xs ys).length) (by unfold zipD; rw [List.length_map, List.length_zip, t1.length, t2.length])
          exact w.mono (fun H2 e => ⟨SqL.of (e _ _ h1), SqL.of (e _ _ h2)⟩) fun i H2 v H3 hi e y G2 e1 e2 => by
            obtain ⟨T, x, z, hv, hT, hH, hx, hz⟩ := y
            obtain ⟨d, hd, td⟩ := t1.get' hx
            obtain ⟨d2, hd2, td2⟩ := t2.get' hz
            refine yd_pair e2 hT hH hv (td.mono e1) (td2.mono e1) ?_
            unfold zipD
            rw [List.getElem?_map, List.getElem?_zip_eq_some (z := (d, d2)) |>.mpr ⟨hd, hd2⟩]
            rfl
end

/-! ### for -/
section
variable {K : PySem.W.Frag} {B : Bs} {H : Hp} {σ : L2.St} {ds : List Sl} {Dn : Ends} {te ta tb : TE} {t : TT} {d : D} {xs : List D} {tu tw tz : TS} {wi : TI} {g : TG}
theorem Env.weak {A : Hp} (E : Env K ⟨B.G, B.H, A⟩ H σ ds) (e : Evl.Ex B.A A) : Env K B H σ ds := by
  obtain ⟨G, ow, E⟩ := E
  exact ⟨G, ow, E.gr, e.trans E.anc, E.dis, E.inj, E.len, E.at_, E.hi⟩
theorem s_for (E : Env K B H σ ds) (h : EdI K wi ds xs) (I : Nat → List Sl → Prop) (h0 : I 0 ds)
    (hs : ∀ i d ds', xs[i]? = some d → I i ds' → ∃ ds2 js, EdG K g ds' d ds2 js ∧ ∀ (A' : Hp) σ' H' (N : L2.St → Hp → Prop), Evl.Ex B.A A' → Env K ⟨B.G, B.H, A'⟩ H' σ' ds2 →
      (∀ ds3 σ3 H3, I (i + 1) ds3 → Env K ⟨B.G, B.H, A'⟩ H3 σ3 ds3 → N σ3 H3) → tu { Dn with nx := N, ct := N, bk := Dn.nx } σ' H')
    (hd : ∀ ds' σ' H', I xs.length ds' → Env K B H' σ' ds' → Dn.nx σ' H') : tFor wi g tu Dn σ H := by
  obtain ⟨G, ow, E⟩ := E
  refine h B G H σ ow E _ fun J G1 H1 g1 w => ?_
  have E1 := E.grow g1
  have eA : Evl.Ex B.A G1 := E1.anc
  refine for_it w (fun i σ' H' => ∃ ds', I i ds' ∧ Env K ⟨B.G, B.H, G1⟩ H' σ' ds') ⟨ds, h0, G1, ow, E1.gr, Evl.Ex.refl _, E1.dis, E1.inj, E1.len, E1.at_, E1.hi⟩ ?_ ?_ ?_
  · rintro i σ' H' _ ⟨ds', _, G', ow', E'⟩
    exact E'.anc.trans E'.gr.i
  · rintro i x σ' H' H2 hi ⟨ds', hI, G', ow', E'⟩ y
    obtain ⟨G2, d, g2, hx, td⟩ := y G' E'.anc E'.gr.i
    obtain ⟨ds2, js, hg, k⟩ := hs i d ds' hx hI
    refine hg _ G2 H2 σ' ow' x (E'.grow g2) td _ fun σ3 ow3 E3 _ => ?_
    exact k G1 σ3 H2 _ eA ⟨G2, ow3, E3⟩ fun ds3 σ4 H4 hI4 E4 => ⟨ds3, hI4, E4⟩
  · rintro σ' H' ⟨ds', hI, E'⟩
    exact hd ds' σ' H' hI (E'.weak eA)
/-- xs.append(e), xs an own list -/
theorem EnvG.mutO {G : Hp} {ow : Nat → Option Addr} {p : Addr} {vs : List V} {ys : List D} {i : Nat} (E : EnvG K B G H σ ds ow) (h : ds[i]? = some (.own xs)) (ho : ow i = some p) (hv : σ[i]? = some (some (.ref p))) (t : TpA G vs ys) : EnvG K B G (upd H p (.lst vs)) σ (ds.set i (.own ys)) ow where
  gr := E.gr.out (E.dis i p ho).2 (E.dis i p ho).1
  anc := E.anc
  dis := E.dis
  inj := E.inj
  len := by rw [List.length_set]; exact E.len
  at_ := fun j s hs => by
    by_cases ej : j = i
    · subst ej
      have hl := (List.getElem?_eq_some_iff.mp h).1
      rw [List.getElem?_set_self hl] at hs
      cases hs
      rw [hv]
      exact ⟨p, vs, rfl, ho, upd_same, t⟩
    · rw [List.getElem?_set_ne (Ne.symm ej)] at hs
      exact (E.at_ j s hs).out fun z => ej (E.inj j i p z ho)
  hi := fun j hj => E.hi j (by rw [List.length_set] at hj; exact hj)
theorem EnvG.own {G : Hp} {ow : Nat → Option Addr} {i : Nat} (E : EnvG K B G H σ ds ow) (h : ds[i]? = some (.own xs)) : ∃ p vs, σ[i]? = some (some (.ref p)) ∧ ow i = some p ∧ H p = some (.lst vs) ∧ TpA G vs xs := by
  have z := E.at_ i _ h
  cases e : σ[i]? with
  | none => rw [e] at z; exact z.elim
  | some w =>
    cases w with
    | none => rw [e] at z; exact z.elim
    | some v =>
      rw [e] at z
      obtain ⟨p, vs, rfl, ho, h1, h2⟩ := z
      exact ⟨p, vs, rfl, ho, h1, h2⟩
theorem s_app {i : Nat} (E : Env K B H σ ds) (h : ds[i]? = some (.own xs)) (he : Ed K te ds d) (hz : xs.length < 100000) (k : ∀ H', Env K B H' σ (ds.set i (.own (xs ++ [d]))) → Dn.nx σ H') :
    tDrop (tBM K "list" rAppend (tVar i) (tCons te tNil)) Dn σ H := by
  obtain ⟨G, ow, E⟩ := E
  obtain ⟨p, vs, hv, ho, h1, h2⟩ := E.own h
  refine ⟨_, hv, Or.inl ⟨rfl, vs, SqL.of h1⟩, he B G H σ ow E _ fun v G1 H1 g1 t1 => ?_⟩
  refine ⟨p, vs, v, rfl, rfl, g1.h _ _ h1, by rw [h2.length]; exact Nat.lt_of_lt_of_le hz (by decide), k _ ⟨G1, ow, ?_⟩⟩
  exact (E.grow g1).mutO h ho hv ((h2.mono g1.g).append (.one t1))
end

/-! ### comprehensions -/
def wipeD (ds : List Sl) : List Nat → List Sl
  | [] => ds
  | v :: vs => (wipeD ds vs).set v .un
def givenD (n : Nat) (f : Nat → Bool) (v : Nat → D) : List D := ((List.range n).filter f).map v
theorem givenD_yes {n : Nat} {f : Nat → Bool} {v : Nat → D} (h : f n = true) : givenD (n + 1) f v = givenD n f v ++ [v n] := by
  simp [givenD, List.range_succ, h]
theorem givenD_no {n : Nat} {f : Nat → Bool} {v : Nat → D} (h : f n = false) : givenD (n + 1) f v = givenD n f v := by
  simp [givenD, List.range_succ, h]
theorem givenD_len (n : Nat) (f : Nat → Bool) (v : Nat → D) : (givenD n f v).length ≤ n :=
  Nat.le_trans (Nat.le_of_eq (List.length_map _)) (Nat.le_trans (List.length_filter_le ..) (Nat.le_of_eq List.length_range))
theorem wipe_none {σ : L2.St} {i : Nat} : ∀ {vs : List Nat}, i ∈ vs → i < σ.length → (wipe σ vs)[i]? = some none
  | [], h, _ => by cases h
  | v :: vs, h, hl => by
    unfold wipe
    by_cases e : v = i
    · subst e
      rw [List.getElem?_set_self (by rw [wipe_length]; exact hl)]
    · rw [List.getElem?_set_ne e]
      exact wipe_none (by rcases List.mem_cons.mp h with q | q; exact absurd q.symm e; exact q) hl
theorem wipe_get {σ : L2.St} {vs : List Nat} {i : Nat} (h : i ∉ vs) : (wipe σ vs)[i]? = σ[i]? := by
  induction vs with
  | nil => rfl
  | cons v vs ih =>
    obtain ⟨h0, h2⟩ := not_or.mp (mt List.mem_cons.mpr h)
    have h1 := Ne.symm h0
    unfold wipe
    rw [List.getElem?_set_ne h1]
    exact ih h2
theorem wipe_agree {σ σ' : L2.St} {js vs : List Nat} (a : AgreeOut (wipe σ vs) σ' js) (hj : ∀ j ∈ js, j ∈ vs) : wipe σ' vs = wipe σ vs := by
  refine List.ext_getElem? fun i => ?_
  by_cases hi : i ∈ vs
  · by_cases hl : i < σ.length
    · rw [wipe_none hi hl, wipe_none hi (by rw [a.1, wipe_length]; exact hl)]
    · rw [List.getElem?_eq_none (by rw [wipe_length, a.1, wipe_length]; omega), List.getElem?_eq_none (by rw [wipe_length]; omega)]
  · rw [wipe_get hi, a.2 i fun z => hi (hj i z), wipe_get hi]
section
variable {K : PySem.W.Frag} {ds : List Sl} {te : TE} {tt : TT} {wi : TI} {g : TG} {xs : List D} {vs : List Nat}
theorem EnvG.wipe {B : Bs} {G H : Hp} {σ : L2.St} {ow : Nat → Option Addr} (E : EnvG K B G H σ ds ow) : ∀ vs : List Nat, ∃ ow', EnvG K B G H (L2.wipe σ vs) (wipeD ds vs) ow' ∧ ∀ i p, ow' i = some p → ow i = some p
  | [] => ⟨ow, E, fun _ _ h => h⟩
  | v :: vs => by
    obtain ⟨ow', E', h⟩ := EnvG.wipe E vs
    exact ⟨_, E'.setU none v, fun i p q => by
      by_cases e : i = v
      · rw [if_pos e] at q; cases q
      · rw [if_neg e] at q; exact h i p q⟩
theorem el_lc (h : EdI K wi ds xs) (f : Nat → Bool) (v : Nat → D) (hz : xs.length ≤ 40000)
    (hs : ∀ i d, xs[i]? = some d → ∃ ds2 js, EdG K g (wipeD ds vs) d ds2 js ∧ (∀ j ∈ js, j ∈ vs) ∧ EdT K tt ds2 (f i) ∧ (f i = true → Ed K te ds2 (v i))) :
    EdL K (tLc wi g tt te vs) ds (givenD xs.length f v) := fun B G H σ ow E Q q => h B G H σ ow E _ fun J G1 H1 g1 w => fun Dl hD => by
  have hD0 : H Dl = none := g1.h.none hD
  have hDg : G1 Dl = none := g1.i.none hD
  have hDB : B.H Dl = none := E.gr.h.none hD0
  refine lc_it w (fun i H' => ∃ G' acc, Grow G H G' H' ∧ Evl.Ex G1 G' ∧ G' Dl = none ∧ H' Dl = some (.lst acc) ∧ TpA G' acc (givenD i f v)) ⟨G1, [], g1.trans (Grow.newH g1.i hD), Evl.Ex.refl _, hDg, upd_same, .nil⟩ ?_ ?_ ?_
  · rintro i H' _ ⟨G', acc, g', e1, _⟩
    exact e1.trans g'.i
  · rintro i x H' H2 hi ⟨G', acc, g', e1, hn, hacc, tacc⟩ y
    obtain ⟨G2, d, g2, hx, td⟩ := y G' e1 g'.i
    obtain ⟨ds2, js, hg, hj, ht, hv⟩ := hs i d hx
    obtain ⟨ow', E', _⟩ := (E.grow (g'.trans g2)).wipe vs
    refine hg B G2 H2 _ ow' x E' td _ fun σ3 ow3 E3 a3 => ⟨wipe_agree a3 hj, ?_⟩
    refine ht B G2 H2 σ3 ow3 E3 _ fun G3 H3 g3 => ?_
    have dl2 : H' Dl ≠ none := by rw [hacc]; exact fun z => nomatch z
    have n2 : G2 Dl = none := g2.lack dl2 hn
    have h2 : H2 Dl = some (.lst acc) := g2.h _ _ hacc
    have n3 : G3 Dl = none := g3.lack (by rw [h2]; exact fun z => nomatch z) n2
    have h3 : H3 Dl = some (.lst acc) := g3.h _ _ h2
    cases hf : f i with
    | true =>
      show te σ3 H3 fun y H4 => ∃ acc, H4 Dl = some (.lst acc) ∧ acc.length < sizeLine ∧ _
      refine hv hf B G3 H3 σ3 ow3 (E3.grow g3) _ fun u G4 H4 g4 t4 => ?_
      have n4 : G4 Dl = none := g4.lack (by rw [h3]; exact fun z => nomatch z) n3
      have h4 : H4 Dl = some (.lst acc) := g4.h _ _ h3
      refine ⟨acc, h4, ?_, G4, acc ++ [u], (((g'.trans g2).trans g3).trans g4).out hD0 n4, e1.trans (g2.g.trans (g3.g.trans g4.g)), n4, upd_same, ?_⟩
      · rw [tacc.length]
        have := givenD_len i f v
        exact Nat.lt_of_lt_of_le (show (givenD i f v).length < 100000 by omega) (by decide)
      · rw [givenD_yes hf]
        exact (tacc.mono (g2.g.trans (g3.g.trans g4.g))).append (.one t4)
    | false =>
      show ∃ G' acc, _
      refine ⟨G3, acc, (g'.trans g2).trans g3, e1.trans (g2.g.trans g3.g), n3, h3, ?_⟩
      rw [givenD_no hf]
      exact tacc.mono (g2.g.trans g3.g)
  · rintro H' ⟨G', acc, g', e1, hn, hacc, tacc⟩
    exact q Dl acc G' H' g' hn hD0 hacc tacc
/-- without a test, the target a name -/
theorem el_lcn {j : Nat} (h : EdI K wi ds xs) (v : Nat → D) (hz : xs.length ≤ 40000) (hj : j ∈ vs) (hs : ∀ i d, xs[i]? = some d → Ed K te ((wipeD ds vs).set j (.dat d)) (v i)) :
    EdL K (tLc wi (gName j) tYes te vs) ds ((List.range xs.length).map v) := by
  have z := el_lc (K := K) (te := te) (tt := tYes) (g := gName j) (vs := vs) h (fun _ => true) v hz fun i d hd => ⟨_, _, eg_name, fun k hk => by rw [List.mem_singleton.mp hk]; exact hj, fun B G H σ ow E Q q => q G H E.ref, fun _ => hs i d hd⟩
  have e : givenD xs.length (fun _ => true) v = (List.range xs.length).map v := by
    unfold givenD
    rw [List.filter_eq_self.mpr fun _ _ => rfl]
  rw [e] at z
  exact z
end
end Wm
set_option Elab.async false
set_option linter.all false
set_option maxRecDepth 100000
set_option maxHeartbeats 4000000
namespace Wm
open PySem PySem.Spec PyProof.Rows L2
/-! ### a caught error that is kept behind its clause -/
section
variable {X : Cx} {pins : List (Addr × Obj)} {σ : L2.St} {H : Hp} {s : Shared}
theorem exK_ok {P : Program} {w : World} {h : Heap} {a : Addr} {cls : Value} {oe : Obj} {vs : Array Value} (e : h.get? a = some oe) (z : Zc cls none oe) (d : oe.data = .fields vs) : ObjOk P w H h a (ExK cls a) :=
  ⟨⟨oe, vs, e, z, d⟩, ⟨oe, e⟩, fun _ _ ⟨o, v, q, r⟩ k => ⟨o, v, k o q, r⟩⟩
theorem inv_track {a : Addr} {oe : Obj} {vs : Array Value} {cls : Value} (I : Inv X ((a, oe) :: pins) σ H s) (hz : Zc cls none oe) (hd : oe.data = .fields vs) (h0 : X.s_0.heap.get? a = none) (hp : ∀ p ∈ X.pn ++ pins, p.1 ≠ a) : Inv X pins σ (upd H a (ExK cls a)) s := by
  obtain ⟨ha, na, nl, nf, _⟩ := I.pin (a, oe) (List.mem_append_right _ List.mem_cons_self)
  have ne0 : ∀ {b : Addr} {o : Obj}, X.s_0.heap.get? b = some o → b ≠ a := fun e z => by rw [z, h0] at e; cases e
  have neH : ∀ {b : Addr} {u : HO}, H b = some u → b ≠ a := fun e => ne_of_none e na
  have U := I.base
  exact
    { ok := I.ok, os := I.os, bare := I.bare, loc := I.loc, cell := I.cell, len := I.len
      base := ⟨U.keep, U.slot, fun b o e n x => (upd_ne (ne0 e)).trans (U.free b o e n x), U.there, fun b xs e => (upd_ne (neH (U.tups b xs e))).trans (U.tups b xs e), fun b o u e => (upd_ne (neH (U.frzs b o u e))).trans (U.frzs b o u e), fun b ps e => by
        obtain ⟨m, q⟩ := U.tbls b ps e
        exact ⟨m, (upd_ne (neH q)).trans q⟩⟩
      free := (upd_ne (Ne.symm nl)).trans I.free
      freeC := fun x c e => by
        refine (upd_ne fun z => ?_).trans (I.freeC x c e)
        obtain ⟨v, o, ho, hc⟩ := I.cell x c e
        have ho' : s.heap.get? c = some o := ho
        rw [z, ha] at ho'
        cases ho'
        rw [hd] at hc
        cases hc
      pin := fun p m => by
        have m' : p ∈ X.pn ++ (a, oe) :: pins := by
          rcases List.mem_append.mp m with q | q
          · exact List.mem_append_left _ q
          · exact List.mem_append_right _ (List.mem_cons_of_mem _ q)
        obtain ⟨p1, p2, p3, p4, p5⟩ := I.pin p m'
        exact ⟨p1, (upd_ne (hp p m)).trans p2, p3, p4, p5⟩
      hok := I.hok.laidN (fun _ _ q => q) na (exK_ok ha hz hd) }
end
/-- what the clause wishes of the body's error: it names it, the suite runs with it in slot i, and behind the clause it is kept -/
def wKeep (K : PySem.W.Frag) (c : Value) (i : Nat) (ts : Addr → TS) (D : Ends) : WX := fun cls d σ H =>
  d = none ∧ PySem.W.exmOne K cls c = some true ∧ ∀ a, H a = none → ts a { nx := fun σ' H' => H' a = none → D.nx (σ'.set i none) (upd H' a (ExK cls a)), rt := fun _ _ => False, bk := fun _ _ => False, ct := fun _ _ => False } (σ.set i (some (.ref a))) H
section
variable {X : Cx} {x n : Str} {c : Value} {i : Nat} {body suite : List Stmt} {b₀ : Stmt} {np pos pos' : Pos} {tb : WX → TS} {ts : Addr → TS}
abbrev Tries (X : Cx) (body : List Stmt) (tb : WX → TS) : Prop := ∀ W pn xe,
  Takes (X.tr pn xe) W → PassesOwn (model X.prog X.w) X.A X.env xe →
    PSs (X.tr pn xe) body (tb W)
theorem ps_try_keep (hs : X.stack = X.env :: X.outer) (hf : X.env.frame = some X.env.locals) (hex : X.ex = []) (hN : X.N.Nodup) (hi : X.N[i]? = some n) (hln : X.env.kindOf n = some .local) (hc : Names X x c)
    (hb : Tries X body tb)
    (hsu : ∀ (a : Addr) (oe : Obj) (pn : List (Addr × Obj)), PSs (X.suite a ((a, oe) :: pn)) (b₀ :: suite) (ts a)) :
    PS X (.Try body [.ExceptHandler (some (.Name x np)) (some n) (b₀ :: suite) pos'] [] [] pos) (fun D σ H => tb (wKeep X.K c i ts D) D σ H) := by
  refine ⟨fun pins s σ H D I h => wpAny_Try_except ?_⟩
  have ok := I.ok
  -- what the machine does with an error of the body
  let R : Value → Shared → Prop := fun e s₁ => wpAny (model X.prog X.w) X.A (noteFrame e X.env) (fun _ s₂ => wpAny (model X.prog X.w) X.A (setFlight e none)
    (fun _ s₃ => wpAny (model X.prog X.w) X.A (handleBy e X.env [.ExceptHandler (some (.Name x np)) (some n) (b₀ :: suite) pos']) (SP X pins D) X.xe s₃) X.xe s₂) X.xe s₁
  have caught : Takes (X.tr (X.pn ++ pins) R) (wKeep X.K c i ts D) := by
    rintro u s' ⟨a, B, sI, pins', σ', H', cls, d, rfl, J', nb, up, sky, na, os, ag, rfl, hyes, hgo⟩
    have J := J'.ofTry ok
    have sky1 : Sky B (X.env :: X.outer) a (Zc cls none) X.env.locals s'.heap := hs ▸ sky
    have hfr : X.A.frames = some (X.env :: X.outer) := ok.frames.trans (congrArg some hs)
    refine Sky.land Zc.steady hfr hf sky1 fun g1 f1 u1 => ?_
    have stand : ∀ {g : Heap}, HandSPX.FlyingZ B (X.env :: X.outer) a (Zc cls none) g → a ∉ frs (X.env :: X.outer) := fun {g} f hm => by
      obtain ⟨o, ws, e, _, q⟩ := f.there
      obtain ⟨_, o', e', no⟩ := f.2.2.1.mem hm
      have e2 : g.get? a = some o := e
      rw [e2] at e'
      exact no _ (Option.some.inj e' ▸ q)
    have nfr := stand f1
    have inF : ∀ e ∈ X.env :: X.outer, e.frame = some a → False := fun e m q => nfr (List.mem_filterMap.mpr ⟨e, m, q⟩)
    have nL : a ≠ X.env.locals := fun z => inF X.env (.head _) (z ▸ hf)
    have nF : a ∉ X.fs := fun hm => let ⟨e, m, q⟩ := List.mem_filterMap.mp hm; inF e (.tail _ m) q
    have nI : sI.heap.get? a = none := by
      cases e : sI.heap.get? a with
      | none => rfl
      | some o =>
        have q := nb a o e (by rw [hs]; exact nfr)
        rw [f1.2.1] at q
        cases q
    have n0 : X.s_0.heap.get? a = none := Option.eq_none_iff_forall_ne_some.mpr fun o q0 => by
      have ⟨o', q⟩ := J.base.there a o q0 (hex ▸ fun z => nomatch z)
      exact nomatch nI.symm.trans q
    have npin : ∀ p ∈ X.pn ++ pins, p.1 ≠ a := fun p hp z => by
      have q := (J.pin p hp).1
      rw [z, nI] at q
      cases q
    obtain ⟨o1, w1, l1, z1, d1⟩ := f1.there
    have J1 : Inv X pins σ' H' { s' with heap := g1 } := J.landed nb f1.1 (up.trans u1) os ag
    have S1 := J1.suite l1 d1 na nL nF
    refine wpAny_handleBy_cons (codeAny_handlers_test ?_) (fun q => nomatch q)
    have looks := PySem.W.exm_one (M := model X.prog X.w) J1.kIn (fun A Q E s k q => wpAny_typeOf_ref (k _ _ l1) (by rw [z1.1]; exact q)) hyes
    have named : ∀ {Q : Value → Shared → Prop} {E : Value → Shared → Prop}, Q c { s' with heap := g1 } → wpAny (model X.prog X.w) (X.A.mark (some (.ref a))) (eval (.Name x np) X.env) Q E { s' with heap := g1 } := fun {Q E} q => by
      obtain ⟨hg, hdb, hm | ⟨hm, hv, hnn⟩⟩ := hc
      · exact ld_glob (X := X.suite a ((a, o1) :: (X.pn ++ pins))) S1 hg hm q hdb
      · exact ld_blt (X := X.suite a ((a, o1) :: (X.pn ++ pins))) S1 hg hm hv q hnn hdb
    refine named (looks.here (codeAny_handlers_suite_as (HandSPX.lands_againZ f1 fun g2 f2 u2 => ?_)))
    obtain ⟨o2, w2, l2, z2, d2⟩ := f2.there
    have J2 : Inv X pins σ' H' { s' with heap := g2 } := J.landed nb f2.1 ((up.trans u1).trans u2) os ag
    refine store_ok (X := X.suite a ((a, o2) :: (X.pn ++ pins))) (v := .ref a) (J2.suite l2 d2 na nL nF) hN hi (.inl hln) rfl (fun s5 S5 => ?_) (.inr hln)
    refine wpAny_mono ((hsu a o2 (X.pn ++ pins)).run [] s5 _ H' _ S5 (hgo a na)) (fun f s6 q => ?_) (fun _ _ z => False.elim z)
    cases f with
    | next =>
      obtain ⟨σ6, H6, S6, q6⟩ := q
      have p6 := S6.pin (a, o2) (List.mem_append_left _ List.mem_cons_self)
      have K6 : Inv X ((a, o2) :: pins) σ6 H6 s6 := ⟨ok, S6.os, S6.bare, S6.base, S6.loc, S6.cell, S6.free, S6.freeC, fun p hp => S6.pin p (List.mem_append_left _ (by
        rcases List.mem_append.mp hp with q | q
        · exact List.mem_cons_of_mem _ (List.mem_append_left _ q)
        · rcases List.mem_cons.mp q with q | q
          · rw [q]; exact List.mem_cons_self
          · exact List.mem_cons_of_mem _ (List.mem_append_right _ q))), S6.hok, S6.len⟩
      refine gone_ok K6 hN hi hln fun s7 J7 => ?_
      exact ⟨_, _, inv_track J7 z2 d2 n0 npin, q6 p6.2.1⟩
    | brk => obtain ⟨_, _, _, z⟩ := q; exact z.elim
    | cont => obtain ⟨_, _, _, z⟩ := q; exact z.elim
    | ret u => obtain ⟨_, _, _, _, _, z⟩ := q; exact z.elim
  refine wpAny_mono ((hb _ (X.pn ++ pins) R caught PassesOwn.looking).run [] s σ H D (I.toTry _) h) (fun f s1 q => ?_) (fun e s1 he => he)
  cases f with
  | next => obtain ⟨σ', H', J, q⟩ := q; exact wpAny_execs_nil ⟨σ', H', J.ofTry ok, q⟩
  | brk => obtain ⟨σ', H', J, q⟩ := q; exact ⟨σ', H', J.ofTry ok, q⟩
  | cont => obtain ⟨σ', H', J, q⟩ := q; exact ⟨σ', H', J.ofTry ok, q⟩
  | ret u => obtain ⟨v, σ', H', J, r, q⟩ := q; exact ⟨v, σ', H', J.ofTry ok, r, q⟩
end
end Wm
set_option Elab.async false
set_option linter.all false
set_option maxRecDepth 100000
set_option maxHeartbeats 4000000
namespace Wm
open PySem PySem.Spec PyProof.Rows L2
/-! ### names of the top -/
section
variable {X : Cx} {x : Str} {pos p : Pos}
theorem pe_gstr {z : Str} (hg : Gl X x) (h : ∃ t, X.mg x = some (.str z t)) (hd : (x == ("__debug__" : Str)) = false := by decide) : PE X (.Name x pos) (tC (.str z)) := by
  obtain ⟨t, h⟩ := h
  exact pe_glob (v := .str z) hg h ⟨t, rfl⟩ (hd := hd)
theorem pe_gint {z : Int} (hg : Gl X x) (h : ∃ t, X.mg x = some (.int z t)) (hd : (x == ("__debug__" : Str)) = false := by decide) : PE X (.Name x pos) (tC (.int z)) := by
  obtain ⟨t, h⟩ := h
  exact pe_glob (v := .int z) hg h ⟨t, rfl⟩ (hd := hd)
theorem pe_gcls {C : Addr} (hg : Gl X x) (h : X.mg x = some (.ref C)) (hd : (x == ("__debug__" : Str)) = false := by decide) : PE X (.Name x pos) (tC (.ref C)) := pe_glob (v := .ref C) hg h rfl (hd := hd)
theorem pe_bty {n : String} (hg : Gl X x) (hm : X.mg x = none) (hv : bootBuiltins x = some (.type n)) (hn : x ≠ "__name__" := by decide) (hd : (x == ("__debug__" : Str)) = false := by decide) : PE X (.Name x pos) (tC (.ty n)) := pe_bltn (v := .ty n) hg hm hv rfl (hn := hn) (hd := hd)
/-- a def of the top, to be called -/
structure Cal (P : Program) (w : World) (K : PySem.W.Frag) (mg : Str → Option Value) (base : Heap) (CX : CXT) (k : Nat) (x : Str) (ps : List Str) (sp : Sp) : Prop where
  ex : ∃ f fd, FnOk P w K mg base CX k f fd ps sp ∧ mg x = some (.ref f) ∧ PySem.W.keepIn K (.ref f) = true ∧ Binds K fd ps []
variable {k : Nat} {ps : List Str} {sp : Sp} {e : Expr} {es : List Expr} {t : TA}
theorem pe_callC (c : Cal X.prog X.w X.K X.mg X.base CX0 k x ps sp) (hr : Room k X.A) (ha : PA X (e :: es) t) (hg : Gl X x := by rfl) (hdb : (x == ("__debug__" : Str)) = false := by decide)
    (he : starEach (e :: es) X.env = (false, eval e X.env) :: starEach es X.env := by rfl) (hpl : (backTo pos (starEach es X.env)).any (·.1) = false := by rfl) : PE X (.Call (.Name x p) (e :: es) [] pos) (tCall sp [] E0 t) := by
  obtain ⟨f, fd, G, hm, kp, b⟩ := c.ex
  exact pe_call G hr hg hm kp b .nil pass0 ha (hdb := hdb) (he := he) (hpl := hpl)
/-- .. that may raise, but does not -/
theorem pe_callN (c : Cal X.prog X.w X.K X.mg X.base (L2.CX X.prog X.w) k x ps sp) (hr : Room k X.A) (ha : PA X (e :: es) t) (hg : Gl X x := by rfl) (hdb : (x == ("__debug__" : Str)) = false := by decide)
    (he : starEach (e :: es) X.env = (false, eval e X.env) :: starEach es X.env := by rfl) (hpl : (backTo pos (starEach es X.env)).any (·.1) = false := by rfl) : PE X (.Call (.Name x p) (e :: es) [] pos) (tCall sp [] E0 t) := by
  obtain ⟨f, fd, G, hm, kp, b⟩ := c.ex
  exact pe_call G hr hg hm kp b .nil passL ha (hdb := hdb) (he := he) (hpl := hpl)
/-- .. that may raise -/
theorem pe_callX {W : WX} (c : Cal X.prog X.w X.K X.mg X.base (L2.CX X.prog X.w) k x ps sp) (hr : Room k X.A) (tk : Takes X W) (ha : PA X (e :: es) t) (hg : Gl X x := by rfl) (hdb : (x == ("__debug__" : Str)) = false := by decide)
    (he : starEach (e :: es) X.env = (false, eval e X.env) :: starEach es X.env := by rfl) (hpl : (backTo pos (starEach es X.env)).any (·.1) = false := by rfl) : PE X (.Call (.Name x p) (e :: es) [] pos) (tCallS sp (WE W) t) := by
  obtain ⟨f, fd, G, hm, kp, b⟩ := c.ex
  exact pe_callS G hr hg hm kp b (fun σ => passAt tk σ) ha (hdb := hdb) (he := he) (hpl := hpl)
end

/-! ### kinds -/
def tyD : D → Option String
  | .non => some "NoneType"
  | .bl _ => some "bool"
  | .int _ => some "int"
  | .str _ => some "str"
  | .lst _ => some "list"
  | .tup _ => some "tuple"
  | .dk _ => some "dict"
  | _ => none
theorem tyX_of {K : PySem.W.Frag} {H : Hp} {v : V} {d : D} {n : String} (t : Tp H v d) (h : tyD d = some n) : TyX K H v (.type n) := by
  cases t <;> simp only [tyD, Option.some.injEq, reduceCtorEq] at h <;> subst h
  · exact .base .non
  · exact .base (.bl _)
  · exact .base (.int _)
  · exact .base (.str _)
  · rename_i h _; exact .base (.lst h)
  · rename_i h _; exact .base (.tup h)
  · rename_i h _; exact .base (.dK h)
section
variable {K : PySem.W.Frag} {te ta tb tc : TE} {t u : TT} {ds : List Sl} {d x y z : D} {xs ys : List D}
theorem ed_isi {m n : String} {b : Bool} (ha : EdH K ta ds x) (ht : tyD x = some m) (hk : kitB m n = some b) : Ed K (tCB (rIsi K) (tCons ta (tCons (tC (.ty n)) tNil))) ds (.bl b) := fun B G H σ ow E Q q =>
  ha B G H σ ow E _ fun v G1 H1 g1 t1 => ⟨v, .ty n, _, _, b, rfl, .ty n, tyX_of t1 ht, kit_ty hk, q _ G1 H1 g1 (.bl b)⟩
theorem ed_dnew : Ed K tDNewK ds (.dk []) := fun B G H σ ow E Q q => fun p hp => q _ _ _ (Grow.new E.gr.i hp) (.dk upd_same .nil)
end

/-! ### isinstance of kept errors -/
def rIsX (K : PySem.W.Frag) : List V → Hp → VK → Prop := fun xs H Q => ∃ (a Da : Addr) (c : V) (cv : Value) (b : Bool), xs = [.ref a, c] ∧ H a = some (ExK (.ref Da) a) ∧ ExcC K Da ∧ ClsV c cv ∧ PySem.W.kitOne K (.ref Da) cv = some b ∧ Q (.bl b) H
def rIsXT (K : PySem.W.Frag) : List V → Hp → VK → Prop := fun xs H Q => ∃ (a Da tp : Addr) (cs : List V) (us : List Value) (b : Bool), xs = [.ref a, .ref tp] ∧ H a = some (ExK (.ref Da) a) ∧ ExcC K Da ∧ H tp = some (.tup cs) ∧ Paired ClsV cs us ∧ PySem.W.kitAny K (.ref Da) us = some b ∧ Q (.bl b) H
section
variable {X : Cx}
theorem exK_at {h : Heap} {a Da : Addr} {P : Program} {w : World} {H : Hp} (o : ObjOk P w H h a (ExK (.ref Da) a)) : ∃ oe, PySem.W.InstAt h a oe Da none := by
  obtain ⟨⟨oe, vs, e, z, d⟩, _⟩ := o
  obtain ⟨oc, od, oda, osl⟩ := oe
  obtain ⟨h1, h2⟩ := z
  dsimp only at h1 h2 d
  subst h1 h2 d
  exact ⟨_, e, rfl, rfl, trivial⟩
theorem call_isX : CallR X (.builtin "isinstance") (rIsX X.K) := by
  intro pins s σ H xs us Q I r h
  obtain ⟨a, Da, c, cv, b, rfl, ha, C, hc, hk, q⟩ := h
  cases r with
  | cons r1 r =>
    cases r with
    | cons r2 r =>
      cases r
      cases r1
      have e := hc.eq r2
      subst e
      obtain ⟨oe, J⟩ := exK_at (I.hok a _ ha)
      exact PySem.W.kia_one (PySem.W.handS_kitx_exc C.hg C.hk C.hs C.hd C.ha C.hn C.ht C.hm) I.kIn J hk (fun z => nomatch z) fun tk => ⟨.bl b, H, I.tok tk, rfl, q⟩
theorem call_isXT : CallR X (.builtin "isinstance") (rIsXT X.K) := by
  intro pins s σ H xs us Q I r h
  obtain ⟨a, Da, tp, cs, ws, b, rfl, ha, C, hT, hp, hk, q⟩ := h
  cases r with
  | cons r1 r =>
    cases r with
    | cons r2 r =>
      cases r
      cases r1
      cases r2
      obtain ⟨oe, J⟩ := exK_at (I.hok a _ ha)
      obtain ⟨its, rv, ⟨o, h1, h2, n, h3⟩, _⟩ := I.tuple (SqT.of (K := X.K) hT)
      have e3 := ClsV.all hp rv
      subst e3
      obtain ⟨oc, od, dt, sl⟩ := o
      simp only at h2 h3
      subst h2 h3
      exact PySem.W.kia_tup (PySem.W.handS_kitx_exc C.hg C.hk C.hs C.hd C.ha C.hn C.ht C.hm) I.kIn J h1 hk (fun z => nomatch z) fun tk => ⟨.bl b, H, I.tok tk, rfl, q⟩
/-- repr of None, a truth, a text -/
def rReprS : List V → Hp → VK → Prop := fun xs H Q => (∃ b : Bool, xs = [.bl b] ∧ Q (.str (if b then "True" else "False")) H) ∨ (xs = [.non] ∧ Q (.str "None") H) ∨ ∃ z : Str, xs = [.str z] ∧ (reprText z).length ≤ sizeLine ∧ Q (.str (reprText z)) H
theorem call_reprS : CallR X (.builtin "repr") rReprS := by
  intro pins s σ H xs us Q I r h
  rcases h with ⟨b, rfl, q⟩ | ⟨rfl, q⟩ | ⟨z, rfl, hz, q⟩
  · cases r with
    | cons r1 r =>
      cases r
      cases r1
      exact PySem.P.repr_of_bool ⟨.str _, H, I.tok _, ⟨_, rfl⟩, q⟩
  · cases r with
    | cons r1 r =>
      cases r
      cases r1
      exact PySem.P.repr_of_none ⟨.str _, H, I.tok _, ⟨_, rfl⟩, q⟩
  · cases r with
    | cons r1 r =>
      cases r
      obtain ⟨t, rfl⟩ := r1
      exact PySem.P.repr_of_str ⟨.str _, H, I.tok _, ⟨_, rfl⟩, q⟩ hz
end
section
variable {K : PySem.W.Frag} {te ta tb tc : TE} {t u : TT} {ds : List Sl} {d x y z : D} {xs ys : List D}
theorem pc_reprB {b : Bool} : PC rReprS [.bl b] (.str (if b then "True" else "False")) := fun G H vs e t => by
  cases t with
  | cons h r =>
    cases r
    cases h
    exact ⟨_, .str _, fun Q q => .inl ⟨b, rfl, q⟩⟩
theorem ed_isX {Da : Addr} {c : V} {cv : Value} {b : Bool} (ha : Ed K ta ds (.exc (.ref Da))) (C : ExcC K Da) (hc : ClsV c cv) (hk : PySem.W.kitOne K (.ref Da) cv = some b) : Ed K (tCB (rIsX K) (tCons ta (tCons (tC c) tNil))) ds (.bl b) := fun B G H σ ow E Q q =>
  ha B G H σ ow E _ fun v G1 H1 g1 t1 => by
    cases t1 with
    | exc h => exact ⟨_, Da, c, cv, b, rfl, g1.i _ _ h, C, hc, hk, q _ G1 H1 g1 (.bl b)⟩
end

/-! ### defs that may raise -/
inductive Out where
  | ret (d : D)
  | exc (cls : Value)
def SpO (R : List D → Out → Prop) : Sp := fun vs H Q E => ∃ (G : Hp) (xs : List D) (o : Out), Evl.Ex G H ∧ TpA G vs xs ∧ R xs o ∧ (∀ d, o = .ret d → ∀ v G' H', Grow G H G' H' → Tp G' v d → Q v H') ∧ ∀ c, o = .exc c → ∀ H', Evl.Ex H H' → E c none H'
section
variable {K : PySem.W.Frag} {B : Bs} {H : Hp} {σ : L2.St} {ds : List Sl} {Dn : Ends} {te : TE} {ta : TA} {d z : D} {xs : List D} {tu tw tz : TS} {W : WX} {R : List D → Out → Prop} {cls : Value}
theorem ed_callX (h : EdA K ta ds xs) (hr : R xs (.ret z)) : Ed K (tCallS (SpO R) (WE W) ta) ds z := fun B G H σ ow E Q q =>
  h B G H σ ow E _ fun vs G1 H1 g1 t1 => ⟨G1, xs, _, g1.i, t1, hr, fun d e v G2 H2 g2 t2 => by cases e; exact q v G2 H2 (g1.trans g2) t2, (fun c e => nomatch e)⟩
theorem ed_callN {E : XK} (h : EdA K ta ds xs) (hr : R xs (.ret z)) : Ed K (tCall (SpO R) [] E ta) ds z := fun B G H σ ow E Q q =>
  h B G H σ ow E _ fun vs G1 H1 g1 t1 => ⟨G1, xs, _, g1.i, by rw [List.append_nil]; exact t1, hr, fun d e v G2 H2 g2 t2 => by cases e; exact q v G2 H2 (g1.trans g2) t2, (fun c e => nomatch e)⟩
/-- the call raises -/
theorem s_asgX {g : TG} (E : Env K B H σ ds) (h : EdA K ta ds xs) (hr : R xs (.exc cls)) (k : ∀ H', Env K B H' σ ds → W cls none σ H') : tAsg (tCallS (SpO R) (WE W) ta) g Dn σ H := by
  obtain ⟨G, ow, E⟩ := E
  refine h B G H σ ow E _ fun vs G1 H1 g1 t1 => ⟨G1, xs, _, g1.i, t1, hr, (fun d e => nomatch e), fun c e H2 e2 => ?_⟩
  cases e
  exact k H2 ⟨G1, ow, (E.grow g1).grow ⟨e2, Evl.Ex.refl _, g1.i.trans e2, fun _ _ h => .inl h⟩⟩
theorem s_dropX (E : Env K B H σ ds) (h : EdA K ta ds xs) (hr : R xs (.exc cls)) (k : ∀ H', Env K B H' σ ds → W cls none σ H') : tDrop (tCallS (SpO R) (WE W) ta) Dn σ H := by
  obtain ⟨G, ow, E⟩ := E
  refine h B G H σ ow E _ fun vs G1 H1 g1 t1 => ⟨G1, xs, _, g1.i, t1, hr, (fun d e => nomatch e), fun c e H2 e2 => ?_⟩
  cases e
  exact k H2 ⟨G1, ow, (E.grow g1).grow ⟨e2, Evl.Ex.refl _, g1.i.trans e2, fun _ _ h => .inl h⟩⟩
/-- except X as n: m = n -/
theorem keep_suite {c : Value} {i j : Nat} (E : Env K B H σ ds) (hij : i ≠ j) (hi : i < ds.length) (hj : j < ds.length) (hm : PySem.W.exmOne K cls c = some true) (k : ∀ σ' H', Env K B H' σ' ((ds.set j (.dat (.exc cls))).set i .un) → Dn.nx σ' H') :
    wKeep K c i (fun _ => tAsg (tVar i) (gName j)) Dn cls none σ H := by
  obtain ⟨G, ow, E⟩ := E
  refine ⟨rfl, hm, fun a ha => ?_⟩
  have hlen : i < σ.length := by rw [E.len]; exact hi
  refine ⟨.ref a, by rw [List.getElem?_set_self hlen], fun ha' => ?_⟩
  have hg : G a = none := E.gr.i.none ha
  have g : Grow G H (upd G a (ExK cls a)) (upd H a (ExK cls a)) := Grow.new E.gr.i ha
  have E1 := ((E.grow g).setD j (v := .ref a) (d := .exc cls) (.exc upd_same)).setU none i
  have e : (((σ.set i (some (.ref a))).set j (some (.ref a))).set i none) = ((σ.set j (some (.ref a))).set i none) := by
    rw [List.set_comm _ _ hij, List.set_set]
  show Dn.nx (((σ.set i (some (.ref a))).set j (some (.ref a))).set i none) (upd H a (ExK cls a))
  rw [e]
  exact k _ _ ⟨_, _, E1⟩
/-! ### the entry -/
theorem env_start {G H : Hp} {vs : List V} {N : List Str} (e : Evl.Ex G H) (t : TpA G vs xs) : Env K ⟨G, H, G⟩ H (start N vs) (xs.map Sl.dat ++ List.replicate (N.length - xs.length) .un) := by
  refine ⟨G, fun _ => none, Grow.refl e, Evl.Ex.refl _, (fun i p h => nomatch h), (fun i j p h => nomatch h), ?_, fun i s hs => ?_, fun _ _ => rfl⟩
  · unfold L2.start
    simp only [List.length_append, List.length_map, List.length_replicate, t.length]
  · unfold L2.start
    by_cases hi : i < xs.length
    · rw [List.getElem?_append_left (by rw [List.length_map]; exact hi), List.getElem?_map] at hs
      rw [List.getElem?_append_left (by rw [List.length_map, t.length]; exact hi), List.getElem?_map]
      cases q : xs[i]? with
      | none => rw [q] at hs; cases hs
      | some d =>
        rw [q] at hs
        cases hs
        obtain ⟨v, h1, h2⟩ := t.get q
        rw [h1]
        exact ⟨rfl, h2⟩
    · rw [List.getElem?_append_right (by rw [List.length_map]; omega), List.getElem?_replicate] at hs
      split at hs
      · cases hs
        generalize (List.map some vs ++ List.replicate (N.length - vs.length) none)[i]? = o
        cases o with
        | none => rfl
        | some w => cases w <;> rfl
      · cases hs
theorem env_law {H : Hp} {a : Addr} {ns : List Int} {N : List Str} (h : SqL K H a (ns.map V.int)) : Env K ⟨H, H, H⟩ H (L2.start N [.ref a]) (([D.scr K ns]).map Sl.dat ++ List.replicate (N.length - ([D.scr K ns] : List D).length) .un) :=
  env_start (Evl.Ex.refl H) (.cons (.scr h) .nil)
end
end Wm
set_option Elab.async false
set_option linter.all false
set_option maxRecDepth 100000
set_option maxHeartbeats 4000000
namespace Wm
open PySem PySem.Spec PyProof.Rows L2
theorem given_map {α : Type} (d0 : α) (ys : List α) (p : α → Bool) (h : α → D) : givenD ys.length (fun i => p (ys.getD i d0)) (fun i => h (ys.getD i d0)) = (ys.filter p).map h := by
  have key : ∀ n, n ≤ ys.length → givenD n (fun i => p (ys.getD i d0)) (fun i => h (ys.getD i d0)) = ((ys.take n).filter p).map h := by
    intro n
    induction n with
    | zero => intro _; rfl
    | succ n ih =>
      intro hn
      have e : ys.take (n + 1) = ys.take n ++ [ys.getD n d0] := by
        rw [List.take_succ, List.getD_eq_getElem?_getD, List.getElem?_eq_getElem (by omega)]
        rfl
      rw [e, List.filter_append, List.map_append, ← ih (by omega)]
      cases q : p (ys.getD n d0) with
      | true => rw [givenD_yes q, List.filter_cons, if_pos q]; rfl
      | false => rw [givenD_no q, List.filter_cons, if_neg (by rw [q]; exact Bool.false_ne_true)]; show _ = _ ++ []; rw [List.append_nil]
  have z := key ys.length (Nat.le_refl _)
  rw [List.take_length] at z
  exact z
section
variable {K : PySem.W.Frag} {ds : List Sl} {te : TE} {tt : TT} {wi : TI} {g : TG} {vs : List Nat} {α : Type} {ys : List α} {src h : α → D} {p : α → Bool}
/-- a comprehension over what is told by a list of one's own -/
theorem el_lcG (hI : EdI K wi ds (ys.map src)) (hz : ys.length ≤ 40000) (tg : α → List Sl) (js : List Nat) (hj : ∀ j ∈ js, j ∈ vs) (hg : ∀ a ∈ ys, EdG K g (wipeD ds vs) (src a) (tg a) js)
    (ht : ∀ a ∈ ys, EdT K tt (tg a) (p a)) (hs : ∀ a ∈ ys, p a = true → Ed K te (tg a) (h a)) : EdL K (tLc wi g tt te vs) ds ((ys.filter p).map h) := by
  cases ys with
  | nil =>
    have z := el_lc (K := K) (te := te) (tt := tt) (g := g) (vs := vs) hI (fun _ => true) (fun _ => D.non) (Nat.zero_le _) fun i d hd => by simp at hd
    exact z
  | cons y0 ys0 =>
    have z := el_lc (K := K) (te := te) (tt := tt) (g := g) (vs := vs) hI (fun i => p ((y0 :: ys0).getD i y0)) (fun i => h ((y0 :: ys0).getD i y0)) (by rw [List.length_map]; exact hz) fun i d hd => by
      rw [List.getElem?_map] at hd
      cases q : (y0 :: ys0)[i]? with
      | none => rw [q] at hd; cases hd
      | some a =>
        rw [q] at hd
        cases hd
        have e : (y0 :: ys0).getD i y0 = a := by rw [List.getD_eq_getElem?_getD, q]; rfl
        have m : a ∈ y0 :: ys0 := List.mem_of_getElem? q
        rw [e]
        exact ⟨tg a, js, hg a m, hj, ht a m, hs a m⟩
    rw [List.length_map, given_map] at z
    exact z
theorem el_lcf {j : Nat} (hI : EdI K wi ds (ys.map src)) (hz : ys.length ≤ 40000) (hj : j ∈ vs) (ht : ∀ a ∈ ys, EdT K tt ((wipeD ds vs).set j (.dat (src a))) (p a)) (hs : ∀ a ∈ ys, p a = true → Ed K te ((wipeD ds vs).set j (.dat (src a))) (h a)) :
    EdL K (tLc wi (gName j) tt te vs) ds ((ys.filter p).map h) := el_lcG hI hz (fun a => (wipeD ds vs).set j (.dat (src a))) [j] (fun k hk => by rw [List.mem_singleton.mp hk]; exact hj) (fun a _ => eg_name) ht hs
theorem et_yes : EdT K tYes ds true := fun B G H σ ow E Q q => q G H E.ref
theorem el_lcm {j : Nat} (hI : EdI K wi ds (ys.map src)) (hz : ys.length ≤ 40000) (hj : j ∈ vs) (hs : ∀ a ∈ ys, Ed K te ((wipeD ds vs).set j (.dat (src a))) (h a)) : EdL K (tLc wi (gName j) tYes te vs) ds (ys.map h) := by
  have z := el_lcf (K := K) (te := te) (tt := tYes) (p := fun _ => true) hI hz hj (fun a _ => et_yes) (fun a m _ => hs a m)
  rw [List.filter_eq_self.mpr fun _ _ => rfl] at z
  exact z
end
/-! ### for, by what was taken -/
section
variable {K : PySem.W.Frag} {B : Bs} {H : Hp} {σ : L2.St} {ds : List Sl} {Dn : Ends} {tu : TS} {wi : TI} {g : TG} {α : Type} {ys : List α} {src : α → D}
theorem s_forM (E : Env K B H σ ds) (h : EdI K wi ds (ys.map src)) (I : List α → List Sl → Prop) (h0 : I [] ds)
    (hs : ∀ pre a post ds', ys = pre ++ a :: post → I pre ds' → ∃ ds2 js, EdG K g ds' (src a) ds2 js ∧ ∀ (A' : Hp) σ' H' (N : L2.St → Hp → Prop), Evl.Ex B.A A' → Env K ⟨B.G, B.H, A'⟩ H' σ' ds2 →
      (∀ ds3 σ3 H3, I (pre ++ [a]) ds3 → Env K ⟨B.G, B.H, A'⟩ H3 σ3 ds3 → N σ3 H3) → tu { Dn with nx := N, ct := N, bk := Dn.nx } σ' H')
    (hd : ∀ ds' σ' H', I ys ds' → Env K B H' σ' ds' → Dn.nx σ' H') : tFor wi g tu Dn σ H := by
  refine s_for E h (fun i ds' => I (ys.take i) ds') h0 (fun i d ds' hi hI => ?_) fun ds' σ' H' hI E' => hd ds' σ' H' (by rw [List.length_map, List.take_length] at hI; exact hI) E'
  rw [List.getElem?_map] at hi
  cases q : ys[i]? with
  | none => rw [q] at hi; cases hi
  | some a =>
    rw [q] at hi
    cases hi
    have hl := (List.getElem?_eq_some_iff.mp q).1
    have e1 : ys = ys.take i ++ a :: ys.drop (i + 1) := by
      have := List.getElem?_eq_some_iff.mp q
      obtain ⟨hl, ha⟩ := this
      rw [← ha, List.getElem_cons_drop hl, List.take_append_drop]
    have e2 : ys.take (i + 1) = ys.take i ++ [a] := by rw [List.take_succ, q]; rfl
    obtain ⟨ds2, js, hg, k⟩ := hs _ a _ ds' e1 hI
    refine ⟨ds2, js, hg, fun A' σ' H' N eA E' kN => k A' σ' H' N eA E' fun ds3 σ3 H3 hI3 E3 => kN ds3 σ3 H3 ?_ E3⟩
    rw [e2]
    exact hI3
end
theorem signs_map (s : Str) : signs s = s.cps.toList.map fun c => D.str ⟨#[c]⟩ := rfl
theorem rngD_map (lo : Int) (n : Nat) : rngD lo n = (List.range n).map fun (i : Nat) => D.int (lo + (i : Int)) := rfl
theorem enumD_map {α : Type} (ys : List α) (src : α → D) : enumD (ys.map src) = ys.zipIdx.map fun p => D.tup [.int (p.2 : Nat), src p.1] := by
  unfold enumD
  rw [List.zipIdx_map, List.map_map]
  rfl
/-- a slot's data by another name -/
theorem Env.to {K : PySem.W.Frag} {B : Bs} {H : Hp} {σ : L2.St} {ds ds' : List Sl} (E : Env K B H σ ds) (e : ds = ds') : Env K B H σ ds' := e ▸ E
end Wm
namespace Wm
open PySem PySem.Spec PyProof.Rows L2
theorem Env.ex {K : PySem.W.Frag} {B : Bs} {H : Hp} {σ : L2.St} {ds : List Sl} (E : Env K B H σ ds) : Evl.Ex B.H H := by
  obtain ⟨G, ow, E⟩ := E
  exact E.gr.h
theorem Env.grow {K : PySem.W.Frag} {B : Bs} {H : Hp} {σ : L2.St} {ds : List Sl} (E : Env K B H σ ds) : ∃ G, Grow B.G B.H G H := by
  obtain ⟨G, ow, E⟩ := E
  exact ⟨G, E.gr⟩
theorem Env.none {K : PySem.W.Frag} {B : Bs} {H : Hp} {σ : L2.St} {ds : List Sl} {Q : VK} (E : Env K B H σ ds) (k : ∀ v G' H', Grow B.G B.H G' H' → Tp G' v .non → Q v H') : Q .non H := by
  obtain ⟨G, g⟩ := E.grow
  exact k _ G H g .non
theorem p2_le {i j : Int} : P2 (rI0 fun i j => .bl (decide (i ≤ j))) (.int i) (.int j) (.bl (decide (i ≤ j))) := p2_I0
theorem p2_lt {i j : Int} : P2 (rI0 fun i j => .bl (decide (i < j))) (.int i) (.int j) (.bl (decide (i < j))) := p2_I0
/-- a <= b of texts -/
theorem p2_leS {i j : Str} : P2 (fun x y H Q => ∃ i j, x = .str i ∧ y = .str j ∧ Q (.bl (!decide (j.cps.toList < i.cps.toList))) H) (.str i) (.str j) (.bl (!decide (j.cps.toList < i.cps.toList))) := fun G H v w e t1 t2 => by
  cases t1; cases t2; exact ⟨_, .bl _, fun Q q => ⟨i, j, rfl, rfl, q⟩⟩
end Wm
namespace Wm
open PySem PySem.Spec PyProof.Rows L2
/-! ### the same with something behind -/
section
variable {K : PySem.W.Frag} {B : Bs} {H : Hp} {σ : L2.St} {ds ds' : List Sl} {Dn : Ends} {te ta tb : TE} {t : TT} {d : D} {xs : List D} {tu tw tz : TS} {wi : TI} {g : TG} {js : List Nat}
theorem q_asg {i : Nat} (E : Env K B H σ ds) (h : Ed K te ds d) (k : ∀ σ' H', Env K B H' σ' (ds.set i (.dat d)) → tz Dn σ' H') : tSeq (tAsg te (gName i)) tz Dn σ H := s_asg (Dn := { Dn with nx := tz Dn }) E h k
theorem q_asgL {i : Nat} (E : Env K B H σ ds) (h : EdL K te ds xs) (hi : i < ds.length) (k : ∀ σ' H', Env K B H' σ' (ds.set i (.own xs)) → tz Dn σ' H') : tSeq (tAsg te (gName i)) tz Dn σ H := s_asgL (Dn := { Dn with nx := tz Dn }) E h hi k
theorem q_asgG (E : Env K B H σ ds) (h : Ed K te ds d) (hg : EdG K g ds d ds' js) (k : ∀ σ' H', Env K B H' σ' ds' → tz Dn σ' H') : tSeq (tAsg te g) tz Dn σ H := s_asgG (Dn := { Dn with nx := tz Dn }) E h hg k
theorem q_if {b : Bool} (E : Env K B H σ ds) (h : EdT K t ds b) (h1 : b = true → ∀ H', Env K B H' σ ds → tu { Dn with nx := tz Dn } σ H') (h2 : b = false → ∀ H', Env K B H' σ ds → tw { Dn with nx := tz Dn } σ H') : tSeq (tIfS t tu tw) tz Dn σ H := s_if (Dn := { Dn with nx := tz Dn }) E h h1 h2
/-- if without else -/
theorem q_when {b : Bool} (E : Env K B H σ ds) (h : EdT K t ds b) (h1 : b = true → ∀ H', Env K B H' σ ds → tu { Dn with nx := tz Dn } σ H') (h2 : b = false → ∀ H', Env K B H' σ ds → tz Dn σ H') : tSeq (tIfS t tu tNext) tz Dn σ H := s_if (Dn := { Dn with nx := tz Dn }) E h h1 h2
theorem s_when {b : Bool} (E : Env K B H σ ds) (h : EdT K t ds b) (h1 : b = true → ∀ H', Env K B H' σ ds → tu Dn σ H') (h2 : b = false → ∀ H', Env K B H' σ ds → Dn.nx σ H') : tIfS t tu tNext Dn σ H := s_if E h h1 h2
theorem q_drop (E : Env K B H σ ds) (h : Ed K te ds d) (k : ∀ H', Env K B H' σ ds → tz Dn σ H') : tSeq (tDrop te) tz Dn σ H := s_drop (Dn := { Dn with nx := tz Dn }) E h k
theorem q_app {i : Nat} (E : Env K B H σ ds) (h : ds[i]? = some (.own xs)) (he : Ed K te ds d) (hz : xs.length < 100000) (k : ∀ H', Env K B H' σ (ds.set i (.own (xs ++ [d]))) → tz Dn σ H') :
    tSeq (tDrop (tBM K "list" rAppend (tVar i) (tCons te tNil))) tz Dn σ H := s_app (Dn := { Dn with nx := tz Dn }) E h he hz k
variable {α : Type} {ys : List α} {src : α → D}
theorem q_forM (E : Env K B H σ ds) (h : EdI K wi ds (ys.map src)) (I : List α → List Sl → Prop) (h0 : I [] ds)
    (hs : ∀ pre a post ds', ys = pre ++ a :: post → I pre ds' → ∃ ds2 js, EdG K g ds' (src a) ds2 js ∧ ∀ (A' : Hp) σ' H' (N : L2.St → Hp → Prop), Evl.Ex B.A A' → Env K ⟨B.G, B.H, A'⟩ H' σ' ds2 →
      (∀ ds3 σ3 H3, I (pre ++ [a]) ds3 → Env K ⟨B.G, B.H, A'⟩ H3 σ3 ds3 → N σ3 H3) → tu { Dn with nx := N, ct := N, bk := tz Dn } σ' H')
    (hd : ∀ ds' σ' H', I ys ds' → Env K B H' σ' ds' → tz Dn σ' H') : tSeq (tFor wi g tu) tz Dn σ H := s_forM (Dn := { Dn with nx := tz Dn }) E h I h0 hs hd
end
end Wm
namespace Wm
open PySem PySem.Spec PyProof.Rows L2
/-- a slot's data are forgotten -/
theorem Env.un {K : PySem.W.Frag} {B : Bs} {H : Hp} {σ : L2.St} {ds : List Sl} (E : Env K B H σ ds) (i : Nat) : Env K B H σ (ds.set i .un) := by
  obtain ⟨G, ow, E⟩ := E
  by_cases hi : i < σ.length
  · have z := E.setU (σ[i]'hi) i
    rw [List.set_getElem_self hi] at z
    exact ⟨G, _, z⟩
  · rw [List.set_eq_of_length_le (by rw [← E.len]; omega)]
    exact ⟨G, ow, E⟩
theorem q_asgX {K : PySem.W.Frag} {B : Bs} {H : Hp} {σ : L2.St} {ds : List Sl} {Dn : Ends} {ta : TA} {xs : List D} {tz : TS} {W : WX} {R : List D → Out → Prop} {cls : Value} {g : TG} (E : Env K B H σ ds) (h : EdA K ta ds xs) (hr : R xs (.exc cls)) (k : ∀ H', Env K B H' σ ds → W cls none σ H') : tSeq (tAsg (tCallS (SpO R) (WE W) ta) g) tz Dn σ H := s_asgX (Dn := { Dn with nx := tz Dn }) E h hr k
end Wm
namespace Wm
open PySem PySem.Spec PyProof.Rows L2
theorem cal_mk {P : Program} {w : World} {K : PySem.W.Frag} {mg : Str → Option Value} {base : Heap} {CX : CXT} {k : Nat} {x q : Str} {params : Arguments} {body : List Stmt} {scope : Scope} {ps : List Str} {sp : Sp} {f : Addr} {fd : FuncData} (hm : mg x = some (.ref f)) (F : FunD K x q params body scope [] [] f fd) (G : FnOk P w K mg base CX k f fd ps sp)
    (h : ∀ (kV doc pm : Value) (an : Option Addr) (cdv ct : Value) (us : List Value), us.length = ps.length → bindArgs (PySem.W.fnOf x q params body scope .none kV doc pm an cdv ct) ⟨us, []⟩ = pure (ps.zip us)) : Cal P w K mg base CX k x ps sp := ⟨f, fd, G, hm, F.kp, F.bindsN h⟩
end Wm
set_option Elab.async false
set_option linter.all false
set_option maxRecDepth 100000
set_option maxHeartbeats 4000000
namespace Wm
open PySem PySem.Spec PyProof.Rows L2 TL
/-! ### texts as lists of signs -/
def S (l : List Nat) : Str := ⟨l.toArray⟩
theorem S_cps (l : List Nat) : (S l).cps.toList = l := by unfold S; simp
theorem S_of (z : Str) : z = S z.cps.toList := by cases z; unfold S; simp
theorem S_len (l : List Nat) : (S l).length = l.length := by unfold S Str.length; simp
theorem S_inj {a b : List Nat} (h : S a = S b) : a = b := by
  have e := congrArg (fun z : Str => z.cps.toList) h
  rw [S_cps, S_cps] at e
  exact e
theorem S_eq {a b : List Nat} : decide (S a = S b) = decide (a = b) := by
  by_cases h : a = b
  · rw [h]; simp
  · rw [decide_eq_false h, decide_eq_false fun q => h (S_inj q)]
theorem S_app (a b : List Nat) : S a ++ S b = S (a ++ b) := by
  have e : tl (S a ++ S b) = a ++ b := by
    rw [tl_append]
    show (S a).cps.toList ++ (S b).cps.toList = _
    rw [S_cps, S_cps]
  rw [← e]
  exact S_of _
theorem len_of (z : Str) : z.length = z.cps.toList.length := by unfold Str.length; simp
def cutL {α : Type} (l : List α) (lo hi : Option Int) : List α := (l.drop (HT.sIx l.length 0 lo)).take (HT.sIx l.length l.length hi - HT.sIx l.length 0 lo)
theorem cutS_S (l : List Nat) (lo hi : Option Int) : cutS (S l) lo hi = S (cutL l lo hi) := by
  unfold cutS cutL
  rw [S_cps, S_len]
  rfl
theorem cutS_of (z : Str) (lo hi : Option Int) : cutS z lo hi = S (cutL z.cps.toList lo hi) := by
  have e := cutS_S z.cps.toList lo hi
  rw [← S_of] at e
  exact e
theorem cutL_len {α : Type} (l : List α) (lo hi : Option Int) : (cutL l lo hi).length ≤ l.length := by
  unfold cutL
  rw [List.length_take, List.length_drop]
  omega
theorem join_S (sep : List Nat) (ls : List (List Nat)) : Txt.join (S sep) (ls.map S) = S (joinL sep ls) := by
  have e : tl (Txt.join (S sep) (ls.map S)) = joinL sep ls := by
    rw [join_eq, tl_join, List.map_map]
    have h1 : tl (S sep) = sep := S_cps sep
    have h2 : (tl ∘ S) = id := funext fun l => S_cps l
    rw [h1, h2, List.map_id]
  rw [← e]
  exact S_of _
theorem joinL_nil : ∀ ls : List (List Nat), joinL [] ls = ls.flatten
  | [] => rfl
  | [p] => by simp [joinL]
  | p :: q :: r => by
    show p ++ ([] ++ joinL [] (q :: r)) = _
    rw [joinL_nil (q :: r)]
    rfl
theorem empty_S : Str.ofString "" = S [] := by decide +kernel
theorem flat_one : ∀ l : List Nat, (l.map fun c => [c]).flatten = l
  | [] => rfl
  | a :: r => by rw [List.map_cons, List.flatten_cons, flat_one r]; rfl
/-- "".join of single signs -/
theorem join_signs (l : List Nat) : Txt.join (Str.ofString "") (l.map fun c => ⟨#[c]⟩) = S l := by
  have h : (l.map fun c => (⟨#[c]⟩ : Str)) = (l.map fun c => [c]).map S := by rw [List.map_map]; rfl
  rw [h, empty_S, join_S, joinL_nil, flat_one]
theorem atI_nat {α : Type} {xs : List α} {i : Int} (d : α) (h0 : 0 ≤ i) (h1 : i < xs.length) : atI xs i = some (xs.getD i.toNat d) := by
  refine atI_of (j := i.toNat) ?_ ?_
  · unfold ixN
    rw [if_pos h0, if_pos h1]
  · rw [List.getD_eq_getElem?_getD, List.getElem?_eq_getElem (by omega)]
    rfl
theorem sizeL {n : Nat} (h : n ≤ 16000000) : n ≤ sizeLine := Nat.le_trans h (by decide)
end Wm
namespace Wm
open PySem PySem.Spec PyProof.Rows L2 TL
/-! ### data that may be compared -/
/-- no dict, no deeper than n -/
inductive Flat : Nat → PyData → Prop
  | non {n : Nat} : Flat n .none
  | bl {n : Nat} (b : Bool) : Flat n (.bool b)
  | int {n : Nat} (i : Int) : Flat n (.int i)
  | str {n : Nat} {x : Str} : PyData.strOk x = true → Flat n (.str x)
  | lst {n : Nat} {xs : List PyData} : (∀ x ∈ xs, Flat n x) → Flat (n + 1) (.list xs)
  | tup {n : Nat} {xs : List PyData} : (∀ x ∈ xs, Flat n x) → Flat (n + 1) (.tuple xs)
theorem canAll : ∀ {xs : List PyData}, (∀ x ∈ xs, x.canLay0 = true) → PyData.canLayAll0 xs = true
  | [], _ => by simp [PyData.canLayAll0]
  | x :: r, h => by
    simp only [PyData.canLayAll0, h x List.mem_cons_self, Bool.true_and]
    exact canAll fun y hy => h y (List.mem_cons_of_mem _ hy)
theorem depAll {n : Nat} : ∀ {xs : List PyData}, (∀ x ∈ xs, x.depth ≤ n) → PyData.depthAll xs ≤ n
  | [], _ => by simp [PyData.depthAll]
  | x :: r, h => by
    simp only [PyData.depthAll]
    have h1 := h x List.mem_cons_self
    have h2 := depAll (xs := r) fun y hy => h y (List.mem_cons_of_mem _ hy)
    omega
theorem Flat.can {n : Nat} {d : PyData} (h : Flat n d) : d.canLay0 = true := by
  induction h with
  | non => simp [PyData.canLay0]
  | bl b => simp [PyData.canLay0]
  | int b => simp [PyData.canLay0]
  | str b => simp only [PyData.canLay0]; exact b
  | lst _ ih => simp only [PyData.canLay0]; exact canAll ih
  | tup _ ih => simp only [PyData.canLay0]; exact canAll ih
theorem Flat.dep {n : Nat} {d : PyData} (h : Flat n d) : d.depth ≤ n := by
  induction h with
  | non => simp [PyData.depth]
  | bl b => simp [PyData.depth]
  | int b => simp [PyData.depth]
  | str b => simp [PyData.depth]
  | lst _ ih => simp only [PyData.depth]; have := depAll ih; omega
  | tup _ ih => simp only [PyData.depth]; have := depAll ih; omega
theorem Flat.shaped {n : Nat} {d : PyData} (h : Flat n d) (hn : n ≤ 64 := by decide) : SeqAt.shaped d = true := by
  unfold SeqAt.shaped
  rw [h.can]
  exact decide_eq_true (Nat.le_trans h.dep hn)
theorem Flat.strs {ss : List Str} (h : ∀ s ∈ ss, PyData.strOk s = true) : Flat 1 (.list (ss.map .str)) := .lst fun x hx => by
  obtain ⟨s, hs, rfl⟩ := List.mem_map.mp hx
  exact .str (h s hs)
theorem eqvA_strs : ∀ (a b : List Str), PyData.eqvAll (a.map .str) (b.map .str) = decide (a = b)
  | [], [] => rfl
  | [], _ :: _ => rfl
  | _ :: _, [] => rfl
  | x :: a, y :: b => by
    show (PyData.eqv (.str x) (.str y) && PyData.eqvAll (a.map .str) (b.map .str)) = _
    rw [eqvA_strs a b]
    show ((x == y) && decide (a = b)) = _
    by_cases h : x = y
    · subst h
      by_cases h2 : a = b
      · subst h2; simp
      · simp [h2]
    · have : (x == y) = false := by simpa using h
      rw [this]
      simp [h]
theorem eqv_strs (a b : List Str) : PyData.eqv (.list (a.map .str)) (.list (b.map .str)) = decide (a = b) := eqvA_strs a b
theorem py_strs (ss : List Str) : py (.lst (ss.map D.str)) = some (.list (ss.map .str)) := by
  simp only [py, pyA_map D.str PyData.str (fun a => rfl) ss, Option.map_some]
end Wm
namespace Wm
open PySem PySem.Spec PyProof.Rows L2 TL
/-- signs of a text that may be compared -/
def OkL (l : List Nat) : Prop := ∀ c ∈ l, c < 1114112
theorem ok_S {l : List Nat} (h : OkL l) : PyData.strOk (S l) = true := by
  unfold PyData.strOk
  rw [Array.all_eq_true]
  intro i hi
  have e : (S l).cps[i] ∈ (S l).cps.toList := by rw [← Array.getElem_toList]; exact List.getElem_mem _
  rw [S_cps] at e
  exact decide_eq_true (h _ e)
theorem ok_of {z : Str} : PyData.strOk z = true ↔ OkL z.cps.toList := by
  constructor
  · intro h c hc
    unfold PyData.strOk at h
    rw [Array.all_eq_true] at h
    obtain ⟨i, hi, rfl⟩ := List.mem_iff_getElem.mp hc
    have := h i (by simpa using hi)
    simpa using this
  · intro h
    rw [S_of z]
    exact ok_S h
theorem OkL.app {a b : List Nat} (h : OkL a) (h2 : OkL b) : OkL (a ++ b) := fun c hc => (List.mem_append.mp hc).elim (h c) (h2 c)
theorem OkL.cut {a : List Nat} {lo hi : Option Int} (h : OkL a) : OkL (cutL a lo hi) := fun c hc => h c (by
  unfold cutL at hc
  exact List.mem_of_mem_drop (List.mem_of_mem_take hc))
theorem OkL.one {c : Nat} (h : c < 1114112) : OkL [c] := fun d hd => by rw [List.mem_singleton.mp hd]; exact h
end Wm
namespace Wm
open PySem PySem.Spec PyProof.Rows L2 TL
theorem len_app (a b : Str) : (a ++ b).length = a.length + b.length := by
  rw [len_of, len_of, len_of]
  have e := tl_append a b
  show (tl (a ++ b)).length = _
  rw [e, List.length_append]
theorem len_one (c : Nat) : (⟨#[c]⟩ : Str).length = 1 := rfl
theorem sum_ones {α : Type} : ∀ l : List α, (l.map fun _ => 1).sum = l.length
  | [] => rfl
  | a :: r => by rw [List.map_cons, List.sum_cons, sum_ones r, List.length_cons]; omega
end Wm
set_option Elab.async false
set_option linter.all false
set_option maxRecDepth 100000
set_option maxHeartbeats 4000000
namespace K01
open PySem PySem.Spec PyProof.Rows L2 Wm
def topS (i : Nat) : Stmt := PySem.Challenge.pw_wordmend_k01_words.main.body.getD i (.Pass ⟨0, 0, 0, 0⟩)
abbrev s_are_letters : Stmt := topS 18
abbrev N_are_letters : List Str := ["thing", "sign"]
abbrev P_are_letters : List Str := ["thing"]
theorem sc_are_letters : FnScope N_are_letters P_are_letters (defScope s_are_letters) := ⟨rfl, rfl, rfl, by decide +kernel, rfl, by decide +kernel, by decide +kernel⟩

abbrev s_is_word : Stmt := topS 19
abbrev N_is_word : List Str := ["thing"]
abbrev P_is_word : List Str := ["thing"]
theorem sc_is_word : FnScope N_is_word P_is_word (defScope s_is_word) := ⟨rfl, rfl, rfl, by decide +kernel, rfl, by decide +kernel, by decide +kernel⟩

abbrev s_need_word : Stmt := topS 20
abbrev N_need_word : List Str := ["thing"]
abbrev P_need_word : List Str := ["thing"]
theorem sc_need_word : FnScope N_need_word P_need_word (defScope s_need_word) := ⟨rfl, rfl, rfl, by decide +kernel, rfl, by decide +kernel, by decide +kernel⟩

abbrev s_law_mixed : Stmt := topS 22
abbrev N_law_mixed : List Str := ["_law_cell", "_law_k", "_law_number_here"]
abbrev P_law_mixed : List Str := ["_law_cell", "_law_k"]
theorem sc_law_mixed : FnScope N_law_mixed P_law_mixed (defScope s_law_mixed) := ⟨rfl, rfl, rfl, by decide +kernel, rfl, by decide +kernel, by decide +kernel⟩

abbrev s_law_number : Stmt := topS 23
abbrev N_law_number : List Str := ["_law_script", "_law_k", "_law_cell"]
abbrev P_law_number : List Str := ["_law_script", "_law_k"]
theorem sc_law_number : FnScope N_law_number P_law_number (defScope s_law_number) := ⟨rfl, rfl, rfl, by decide +kernel, rfl, by decide +kernel, by decide +kernel⟩

abbrev s_law_kind : Stmt := topS 24
abbrev N_law_kind : List Str := ["_law_e", "_law_found"]
abbrev P_law_kind : List Str := ["_law_e"]
theorem sc_law_kind : FnScope N_law_kind P_law_kind (defScope s_law_kind) := ⟨rfl, rfl, rfl, by decide +kernel, rfl, by decide +kernel, by decide +kernel⟩

abbrev s_law_text : Stmt := topS 25
abbrev N_law_text : List Str := ["_law_cell", "_law_k", "_law_letters", "_law_size", "_law_text_here", "_law_at", "_law_sign", "_law_j"]
abbrev P_law_text : List Str := ["_law_cell", "_law_k"]
theorem sc_law_text : FnScope N_law_text P_law_text (defScope s_law_text) := ⟨rfl, rfl, rfl, by decide +kernel, rfl, by decide +kernel, by decide +kernel⟩

abbrev s_law_is_letters : Stmt := topS 26
abbrev N_law_is_letters : List Str := ["_law_thing", "_law_sign"]
abbrev P_law_is_letters : List Str := ["_law_thing"]
theorem sc_law_is_letters : FnScope N_law_is_letters P_law_is_letters (defScope s_law_is_letters) := ⟨rfl, rfl, rfl, by decide +kernel, rfl, by decide +kernel, by decide +kernel⟩

abbrev s_law_refused : Stmt := topS 27
abbrev N_law_refused : List Str := ["_law_thing", "_law_error", "_law_found", "_law_e"]
abbrev P_law_refused : List Str := ["_law_thing"]
theorem sc_law_refused : FnScope N_law_refused P_law_refused (defScope s_law_refused) := ⟨rfl, rfl, rfl, by decide +kernel, rfl, by decide +kernel, by decide +kernel⟩

abbrev s_law_right : Stmt := topS 28
abbrev N_law_right : List Str := ["_law_thing", "_law_letters", "_law_due"]
abbrev P_law_right : List Str := ["_law_thing"]
theorem sc_law_right : FnScope N_law_right P_law_right (defScope s_law_right) := ⟨rfl, rfl, rfl, by decide +kernel, rfl, by decide +kernel, by decide +kernel⟩

abbrev s_law : Stmt := topS 29
abbrev N_law : List Str := ["_law_script", "_law_k", "_law_cell", "_law_text_here", "_law_some"]
abbrev P_law : List Str := ["_law_script"]
theorem sc_law : FnScope N_law P_law (defScope s_law) := ⟨rfl, rfl, rfl, by decide +kernel, rfl, by decide +kernel, by decide +kernel⟩

structure Txt (K : PySem.W.Frag) (mg : Str → Option Value) : Prop where
  fr_ValueError : mg "ValueError" = none
  fr_all : mg "all" = none
  fr_int : mg "int" = none
  fr_isinstance : mg "isinstance" = none
  fr_len : mg "len" = none
  fr_min : mg "min" = none
  fr_range : mg "range" = none
  fr_repr : mg "repr" = none
  fr_str : mg "str" = none
  g_LETTERS : ∃ t, mg "LETTERS" = some (.str "abcdefghijklmnopqrstuvwxyz" t)
  g_MOST_LETTERS : ∃ t, mg "MOST_LETTERS" = some (.int 16 t)
  c_BadPattern : mg "BadPattern" = some (.ref (He.ga K "BadPattern"))
  c_BadPrice : mg "BadPrice" = some (.ref (He.ga K "BadPrice"))
  c_BadRule : mg "BadRule" = some (.ref (He.ga K "BadRule"))
  c_BadText : mg "BadText" = some (.ref (He.ga K "BadText"))
  c_BadWord : mg "BadWord" = some (.ref (He.ga K "BadWord"))
  c_InUse : mg "InUse" = some (.ref (He.ga K "InUse"))
  c_MendError : mg "MendError" = some (.ref (He.ga K "MendError"))
  c_NoClass : mg "NoClass" = some (.ref (He.ga K "NoClass"))
  c_NoNumber : mg "NoNumber" = some (.ref (He.ga K "NoNumber"))
  c_NoPlace : mg "NoPlace" = some (.ref (He.ga K "NoPlace"))
  c_NoStem : mg "NoStem" = some (.ref (He.ga K "NoStem"))
  c_NoWord : mg "NoWord" = some (.ref (He.ga K "NoWord"))
  c_TooMany : mg "TooMany" = some (.ref (He.ga K "TooMany"))
  c_Twice : mg "Twice" = some (.ref (He.ga K "Twice"))
  c__law_is_letters : mg "_law_is_letters" = some (.ref (He.ga K "_law_is_letters"))
  c__law_kind : mg "_law_kind" = some (.ref (He.ga K "_law_kind"))
  c__law_mixed : mg "_law_mixed" = some (.ref (He.ga K "_law_mixed"))
  c__law_number : mg "_law_number" = some (.ref (He.ga K "_law_number"))
  c__law_refused : mg "_law_refused" = some (.ref (He.ga K "_law_refused"))
  c__law_right : mg "_law_right" = some (.ref (He.ga K "_law_right"))
  c__law_text : mg "_law_text" = some (.ref (He.ga K "_law_text"))
  c_are_letters : mg "are_letters" = some (.ref (He.ga K "are_letters"))
  c_is_word : mg "is_word" = some (.ref (He.ga K "is_word"))
  c_need_word : mg "need_word" = some (.ref (He.ga K "need_word"))
  x_BadWord : PySem.W.excIn K (He.ga K "BadWord") He.veBase "ValueError.__new__" = true
  k_BadWord : PySem.W.keepIn K (.ref (He.ga K "BadWord")) = true
  b_BadWord : PySem.W.subIn K (.ref (He.ga K "BadWord")) (.type "BaseException") = some true
  t_BadWord : PySem.W.typeIn K (.ref (He.ga K "BadWord")) = some (.type "type")
  m_BadWord : PySem.W.exmOne K (.ref (He.ga K "BadWord")) (.ref (He.ga K "MendError")) = some true
  e1_BadWord : PySem.W.findIn K (.ref (He.ga K "BadWord")) "__getattribute__" = some (some (.builtin "BaseException.__getattribute__"))
  e2_BadWord : PySem.W.findIn K (.ref (He.ga K "BadWord")) "__getattr__" = some none
  e4_BadWord : PySem.W.hasDictIn K (He.ga K "BadWord") = true
  e5_BadWord : PySem.W.findIn K (.ref (He.ga K "BadWord")) "__class__" = some (some (.builtin "object.__class__"))
  e6_BadWord : PySem.W.specialIn K (.builtin "object.__class__") "__get__" = some (some (.builtin "getset_descriptor.__get__"))
  e7_BadWord : PySem.W.takesIn K (.builtin "object.__class__") = some true
  e8_BadWord : PySem.W.mroIn K (He.ga K "BadWord") (.type "object") = some true
  is_BadWord_BadWord : PySem.W.kitOne K (.ref (He.ga K "BadWord")) (.ref (He.ga K "BadWord")) = some true
  is_BadWord_BadRule : PySem.W.kitOne K (.ref (He.ga K "BadWord")) (.ref (He.ga K "BadRule")) = some false
  is_BadWord_BadText : PySem.W.kitOne K (.ref (He.ga K "BadWord")) (.ref (He.ga K "BadText")) = some false
  is_BadWord_Twice : PySem.W.kitOne K (.ref (He.ga K "BadWord")) (.ref (He.ga K "Twice")) = some false
  is_BadWord_NoStem : PySem.W.kitOne K (.ref (He.ga K "BadWord")) (.ref (He.ga K "NoStem")) = some false
  is_BadWord_NoClass : PySem.W.kitOne K (.ref (He.ga K "BadWord")) (.ref (He.ga K "NoClass")) = some false
  is_BadWord_InUse : PySem.W.kitOne K (.ref (He.ga K "BadWord")) (.ref (He.ga K "InUse")) = some false
  is_BadWord_TooMany : PySem.W.kitOne K (.ref (He.ga K "BadWord")) (.ref (He.ga K "TooMany")) = some false
  is_BadWord_NoNumber : PySem.W.kitOne K (.ref (He.ga K "BadWord")) (.ref (He.ga K "NoNumber")) = some false
  is_BadWord_NoWord : PySem.W.kitOne K (.ref (He.ga K "BadWord")) (.ref (He.ga K "NoWord")) = some false
  is_BadWord_BadPrice : PySem.W.kitOne K (.ref (He.ga K "BadWord")) (.ref (He.ga K "BadPrice")) = some false
  is_BadWord_NoPlace : PySem.W.kitOne K (.ref (He.ga K "BadWord")) (.ref (He.ga K "NoPlace")) = some false
  is_BadWord_BadPattern : PySem.W.kitOne K (.ref (He.ga K "BadWord")) (.ref (He.ga K "BadPattern")) = some false
  is_BadWord_ValueError : PySem.W.kitOne K (.ref (He.ga K "BadWord")) (.type "ValueError") = some true
theorem Txt.exc_BadWord {K : PySem.W.Frag} {mg : Str → Option Value} (T : Txt K mg) : ExcC K (He.ga K "BadWord") := ⟨T.e1_BadWord, T.e2_BadWord, T.b_BadWord, T.e4_BadWord, T.e5_BadWord, T.e6_BadWord, T.e7_BadWord, T.e8_BadWord⟩

abbrev FnP (K : PySem.W.Frag) (x : Str) (st : Stmt) (f : Addr) (fd : FuncData) : Prop := FunD K x x (defArgs st) (defBody st) (defScope st) [] [] f fd
local macro_rules | `(tactic| walk_at "sd") => `(tactic| first | omega | decide | assumption | (unfold CMul; omega) | (unfold CDiv; omega))
/-! ### the mathematics -/
def LET : List Nat := (Str.ofString "abcdefghijklmnopqrstuvwxyz").cps.toList
theorem let_iff (c : Nat) : c ∈ LET ↔ 97 ≤ c ∧ c ≤ 122 := by
  have e : LET = [97, 98, 99, 100, 101, 102, 103, 104, 105, 106, 107, 108, 109, 110, 111, 112, 113, 114, 115, 116, 117, 118, 119, 120, 121, 122] := by decide +kernel
  rw [e]
  simp only [List.mem_cons, List.not_mem_nil, or_false]
  omega
/-- a thing that may be handed in -/
def Thing (d : D) : Prop := ∃ m, tyD d = some m ∧ ∀ s, d = .str s → s.length ≤ 1000 ∧ PyData.strOk s = true
def isStr : D → Bool
  | .str _ => true
  | _ => false
def lett : D → Bool
  | .str s => s.cps.toList.all fun c => decide (c ∈ LET)
  | _ => false
def word : D → Bool
  | .str s => (s.cps.toList.all fun c => decide (c ∈ LET)) && (decide ((1 : Int) ≤ s.length) && decide ((s.length : Int) ≤ 16))
  | _ => false
theorem thing_str {d : D} (h : Thing d) : ∃ m, tyD d = some m ∧ kitB m "str" = some (isStr d) := by
  obtain ⟨m, h1, _⟩ := h
  refine ⟨m, h1, ?_⟩
  cases d <;> simp only [tyD, Option.some.injEq, reduceCtorEq] at h1 <;> subst h1
  · exact (by decide +kernel : kitB "NoneType" "str" = some false)
  · exact (by decide +kernel : kitB "bool" "str" = some false)
  · exact (by decide +kernel : kitB "int" "str" = some false)
  · exact (by decide +kernel : kitB "str" "str" = some true)
  · exact (by decide +kernel : kitB "list" "str" = some false)
  · exact (by decide +kernel : kitB "tuple" "str" = some false)
  · exact (by decide +kernel : kitB "dict" "str" = some false)
theorem isStr_of {d : D} (h : isStr d = true) : ∃ s, d = .str s := by
  cases d <;> first | exact ⟨_, rfl⟩ | cases h
def mixed (c k : Int) : Int :=
  let n := (c % 1000000007 + 7919 * k * k + 31 * k + 17) * 48271 % 2147483647
  n * (n % 65521 + 16807) % 2147483629 / 4
theorem mixed_lt (c k : Int) : 0 ≤ mixed c k ∧ mixed c k < 536870908 := by
  unfold mixed
  dsimp only
  omega
def numb (ns : List Int) (k : Int) : Int := mixed (if ns = [] then 0 else ns.getD (k % (ns.length : Int)).toNat 0) k
def tsize (c : Int) : Int := [c / 8 % 19, 1 + c / 8 % 16, 15 + c / 8 % 4].getD (c / 152 % 3).toNat 0
theorem tsize_le (c : Int) : 0 ≤ tsize c ∧ tsize c ≤ 18 := by
  unfold tsize
  have h : c / 152 % 3 = 0 ∨ c / 152 % 3 = 1 ∨ c / 152 % 3 = 2 := by omega
  rcases h with h | h | h <;> rw [h]
  · show 0 ≤ c / 8 % 19 ∧ c / 8 % 19 ≤ 18; omega
  · show 0 ≤ 1 + c / 8 % 16 ∧ 1 + c / 8 % 16 ≤ 18; omega
  · show 0 ≤ 15 + c / 8 % 4 ∧ 15 + c / 8 % 4 ≤ 18; omega
def tlet (c k : Int) : List Nat := (List.range (tsize c).toNat).map fun (j : Nat) => LET.getD (mixed c (k + (0 + (j : Int))) / 5 % 26).toNat 0
theorem tlet_len (c k : Int) : (tlet c k).length ≤ 18 := by
  unfold tlet
  rw [List.length_map, List.length_range]
  have := tsize_le c
  omega
def SIGNS : List Nat := (Str.ofString "AZ09 -_.'#[^~@{`Q/").cps.toList
def tsign (c : Int) : Nat := SIGNS.getD (c / 10000 % 18).toNat 0
def tat (c : Int) : Int := c / 500 % (tsize c + 1)
def text (c k : Int) : Str :=
  if c % 4 = 1 then cutS (S (tlet c k)) none (some (tat c)) ++ ⟨#[tsign c]⟩ ++ cutS (S (tlet c k)) (some (tat c)) none
  else if c % 4 = 2 then cutS (S (tlet c k)) none (some (tat c)) ++ ⟨#[tsign c]⟩ ++ cutS (S (tlet c k)) (some (tat c + 1)) none
  else S (tlet c k)
theorem getD_mem {α : Type} {l : List α} {i : Nat} {d : α} (h : i < l.length) : l.getD i d ∈ l := by
  rw [List.getD_eq_getElem?_getD, List.getElem?_eq_getElem h]
  exact List.getElem_mem h
theorem let_len : LET.length = 26 := by decide +kernel
theorem signs_len : SIGNS.length = 18 := by decide +kernel
theorem signs_ok : OkL SIGNS := by
  have e : ∀ c ∈ SIGNS, c < 1114112 := by decide +kernel
  exact e
theorem tlet_ok (c k : Int) : OkL (tlet c k) := fun x hx => by
  unfold tlet at hx
  obtain ⟨j, _, rfl⟩ := List.mem_map.mp hx
  have hm := getD_mem (l := LET) (i := (mixed c (k + (0 + (j : Int))) / 5 % 26).toNat) (d := 0) (by rw [let_len]; omega)
  have := (let_iff _).mp hm
  omega
theorem tsign_ok (c : Int) : tsign c < 1114112 := signs_ok _ (getD_mem (by rw [signs_len]; omega))
theorem glue {l : List Nat} {x : Nat} {a b : Option Int} (h : OkL l) (hl : l.length ≤ 18) (hx : x < 1114112) : (cutS (S l) none a ++ ⟨#[x]⟩ ++ cutS (S l) b none).length ≤ 1000 ∧ PyData.strOk (cutS (S l) none a ++ ⟨#[x]⟩ ++ cutS (S l) b none) = true := by
  have e : cutS (S l) none a ++ ⟨#[x]⟩ ++ cutS (S l) b none = S (cutL l none a ++ [x] ++ cutL l b none) := by
    rw [cutS_S, cutS_S, show (⟨#[x]⟩ : Str) = S [x] from rfl, S_app, S_app]
  rw [e]
  refine ⟨?_, ok_S (((h.cut).app (.one hx)).app h.cut)⟩
  rw [S_len]
  simp only [List.length_append, List.length_singleton]
  have h1 := cutL_len l none a
  have h2 := cutL_len l b none
  omega
theorem text_ok (c k : Int) : (text c k).length ≤ 1000 ∧ PyData.strOk (text c k) = true := by
  unfold text
  split
  · exact glue (tlet_ok c k) (tlet_len c k) (tsign_ok c)
  · split
    · exact glue (tlet_ok c k) (tlet_len c k) (tsign_ok c)
    · exact ⟨by rw [S_len]; have := tlet_len c k; omega, ok_S (tlet_ok c k)⟩
/-- between a and z, as the law looks -/
theorem a_z (c : Nat) : ((!decide ((⟨#[c]⟩ : Str).cps.toList < (Str.ofString "a").cps.toList)) && (!decide ((Str.ofString "z").cps.toList < (⟨#[c]⟩ : Str).cps.toList))) = decide (c ∈ LET) := by
  have ea : (Str.ofString "a").cps.toList = [97] := by decide +kernel
  have ez : (Str.ofString "z").cps.toList = [122] := by decide +kernel
  have ec : (⟨#[c]⟩ : Str).cps.toList = [c] := rfl
  rw [ea, ez, ec]
  have h1 : ([c] < [97]) ↔ c < 97 := by simp [List.cons_lt_cons_iff]
  have h2 : ([122] < [c]) ↔ 122 < c := by simp [List.cons_lt_cons_iff]
  have h3 := let_iff c
  by_cases h : c ∈ LET
  · have h4 := h3.mp h
    rw [decide_eq_true h, decide_eq_false (fun q => by have := h1.mp q; omega), decide_eq_false (fun q => by have := h2.mp q; omega)]
    rfl
  · rw [decide_eq_false h]
    by_cases h5 : c < 97
    · rw [decide_eq_true (h1.mpr h5)]; rfl
    · have h6 : 122 < c := by
        by_cases h7 : 122 < c
        · exact h7
        · exact absurd (h3.mpr ⟨by omega, by omega⟩) h
      rw [decide_eq_true (h2.mpr h6)]
      simp
/-! ### the promises -/
section
variable (K : PySem.W.Frag)
def R_are_letters (xs : List D) (r : D) : Prop := ∃ d, xs = [d] ∧ Thing d ∧ r = .bl (lett d)
def R_is_word (xs : List D) (r : D) : Prop := ∃ d, xs = [d] ∧ Thing d ∧ r = .bl (word d)
def R_need_word (xs : List D) (r : Out) : Prop := ∃ d, xs = [d] ∧ Thing d ∧ r = if word d = true then .ret .non else .exc (.ref (He.ga K "BadWord"))
def R_number (xs : List D) (r : D) : Prop := ∃ (ns : List Int) (k : Int), xs = [.scr K ns, .int k] ∧ 0 ≤ k ∧ k ≤ 100000 ∧ r = .int (numb ns k)
def R_kind (xs : List D) (r : D) : Prop := xs = [.exc (.ref (He.ga K "BadWord"))] ∧ r = .str "word"
def R_text (xs : List D) (r : D) : Prop := ∃ c k : Int, xs = [.int c, .int k] ∧ 0 ≤ c ∧ 0 ≤ k ∧ k ≤ 10000 ∧ r = .str (text c k)
def R_isl (xs : List D) (r : D) : Prop := ∃ d, xs = [d] ∧ Thing d ∧ r = .bl (lett d)
def R_refused (xs : List D) (r : D) : Prop := ∃ d, xs = [d] ∧ Thing d ∧ r = .str (if word d = true then "" else "word")
def R_right (xs : List D) (r : D) : Prop := ∃ d, xs = [d] ∧ Thing d ∧ r = .bl true
def R_mixed (xs : List D) (r : D) : Prop := ∃ c k : Int, xs = [.int c, .int k] ∧ 0 ≤ k ∧ k ≤ 100000 ∧ r = .int (mixed c k)
end
section
variable {P : Program} {w : World} {K : PySem.W.Frag} {mg : Str → Option Value} {base : Heap} {f : Addr} {fd : FuncData}
theorem ok_are (T : Txt K mg) (F : FnP K "are_letters" s_are_letters f fd) : FnOk P w K mg base CX0 1 f fd P_are_letters (SpD R_are_letters) := by
  refine F.ok sc_are_letters (fun vs H Q E h => ?_) (fun cdv A outer s H vs Q E hr h => ⟨_, PSs.nox (pss_one (ps_ret (pe_and (pe_callB call_isi (by rfl) T.fr_isinstance (by decide +kernel) (pa_cons (pv 0) (pa_cons (pe_bty (n := "str") rfl T.fr_str (by decide +kernel)) pa_nil))) (pe_one (pe_callB (cr_all rfl) (by rfl) T.fr_all (by decide +kernel) (pa_cons (pe_lc (own := [("sign", 1)]) (g := (gName 1)) (by rfl) sc_are_letters.nd (pi_str (pv 0)) (blkOk_by (own := [("sign", 1)]) (N := N_are_letters) (sc := defScope s_are_letters) (by decide +kernel)) (fun _ _ _ _ _ => (pg_name (i := 1) sc_are_letters.nd rfl (Or.inl rfl))) (fun _ _ _ _ _ => pts_nil) (fun _ _ _ _ _ => (pe_cmpR op_in_sign (pv 1) (pe_gstr rfl T.g_LETTERS) (by rfl)))) pa_nil)))))), ?_⟩)
  · obtain ⟨G, xs, r, e, t, ⟨d, rfl, _⟩, _⟩ := h
    exact t.length
  · obtain ⟨G, xs, r, e, t, ⟨d, rfl, hd, rfl⟩, k⟩ := h
    have E := env_start (K := K) (N := N_are_letters) e t
    obtain ⟨m, hm, hk⟩ := thing_str hd
    refine s_ret E (ed_andV (a := isStr d) (b := lett d) (ed_isi (Ed.h (ed_var rfl)) hm hk) fun h => ?_) fun v G' H' g t => k v G' H' g ?_
    · obtain ⟨s, rfl⟩ := isStr_of h
      obtain ⟨_, _, hs⟩ := hd
      have hl : s.cps.toList.length ≤ 40000 := by have := (hs s rfl).1; show s.cps.size ≤ _; unfold Str.length at this; omega
      refine Ed.is (ed_cbH (z := .bl ((s.cps.toList.map fun c => decide (c ∈ LET)).all id)) (eah_cons (Ed.h (EdL.ed (el_lcm (ys := s.cps.toList) (src := fun c => .str ⟨#[c]⟩) (h := fun c => .bl (decide (c ∈ LET))) (ei_str (ed_var rfl)) hl (by decide) fun a _ => ?_))) eah_nil) ?_ rfl) ?_
      · exact ed_inSign (ed_var rfl) (ed_str _)
      · have z := pc_all (K := K) (bs := s.cps.toList.map fun c => decide (c ∈ LET))
        rw [List.map_map] at z
        exact z
      · show D.bl _ = D.bl _
        rw [List.all_map]
        rfl
    · cases d <;> exact t
theorem lett_of {d : D} (h : lett d = true) : ∃ s, d = .str s := by
  cases d <;> first | exact ⟨_, rfl⟩ | cases h
theorem ok_isw (T : Txt K mg) (c_are_letters : Cal P w K mg base CX0 1 "are_letters" P_are_letters (SpD R_are_letters)) (F : FnP K "is_word" s_is_word f fd) : FnOk P w K mg base CX0 2 f fd P_is_word (SpD R_is_word) := by
  refine F.ok sc_is_word (fun vs H Q E h => ?_) (fun cdv A outer s H vs Q E hr h => ⟨_, PSs.nox (pss_one (ps_ret (pe_and (pe_callC c_are_letters (hr.mono (by decide)) (pa_cons (pv 0) pa_nil)) (pe_one (pe_chain op_le op_le pe_int (pe_callB call_len (by rfl) T.fr_len (by decide +kernel) (pa_cons (pv 0) pa_nil)) (pe_gint rfl T.g_MOST_LETTERS)))))), ?_⟩)
  · obtain ⟨G, xs, r, e, t, ⟨d, rfl, _⟩, _⟩ := h
    exact t.length
  · obtain ⟨G, xs, r, e, t, ⟨d, rfl, hd, rfl⟩, k⟩ := h
    have E := env_start (K := K) (N := N_is_word) e t
    refine s_ret E (ed_andV (a := lett d) (b := match d with | .str s => decide ((1 : Int) ≤ s.length) && decide ((s.length : Int) ≤ 16) | _ => false) (ed_call0 (ea_cons (ed_var rfl) ea_nil) ⟨d, rfl, hd, rfl⟩) fun h => ?_) fun v G' H' g t => k v G' H' g ?_
    · obtain ⟨s, rfl⟩ := lett_of h
      obtain ⟨_, _, hs⟩ := hd
      exact ed_chain (ed_int _) (ed_cb (ea_cons (ed_var rfl) ea_nil) (pc_lenS (Nat.le_trans (hs s rfl).1 (by decide)))) p2_le (fun _ => ed_int _) (fun _ => p2_le)
    · cases d <;> exact t
theorem ok_need (T : Txt K mg) (c_is_word : Cal P w K mg base CX0 2 "is_word" P_is_word (SpD R_is_word)) (F : FnP K "need_word" s_need_word f fd) : FnOk P w K mg base (L2.CX P w) 3 f fd P_need_word (SpO (R_need_word K)) := by
  refine F.ok sc_need_word (fun vs H Q E h => ?_) (fun cdv A outer s H vs Q E hr h => ⟨_, (pss_one (ps_if (pt_not (pt_val (pe_callC c_is_word (hr.mono (by decide)) (pa_cons (pv 0) pa_nil)))) (pss_one (ps_raise rfl (takes_of rfl rfl rfl rfl) (pmk_own PySem.F.excBase_ValueError T.x_BadWord T.c_BadWord T.k_BadWord (raises_own T.b_BadWord T.t_BadWord) rfl))) pss_nil)), ?_⟩)
  · obtain ⟨G, xs, r, e, t, ⟨d, rfl, _⟩, _⟩ := h
    exact t.length
  · obtain ⟨G, xs, r, e, t, ⟨d, rfl, hd, rfl⟩, k, kx⟩ := h
    have E := env_start (K := K) (N := N_need_word) e t
    refine s_if E (et_not (et_B (ed_call0 (ea_cons (ed_var rfl) ea_nil) ⟨d, rfl, hd, rfl⟩))) (fun hb H' E' => ?_) (fun hb H' E' => ?_)
    · exact kx _ (by rw [if_neg (by simpa using hb)]) _ E'.ex
    · exact E'.none (k .non (by rw [if_pos (by simpa using hb)]))
theorem ok_mixed (F : FnP K "_law_mixed" s_law_mixed f fd) : FnOk P w K mg base CX0 1 f fd P_law_mixed (SpD R_mixed) := by
  refine F.ok sc_law_mixed (fun vs H Q E h => ?_) (fun cdv A outer s H vs Q E hr h => ⟨_, PSs.nox (pss_cons (ps_set (i := 2) sc_law_mixed.nd rfl (Or.inl rfl) (pe_op op_mod (pe_op op_mul (pe_op op_add (pe_op op_add (pe_op op_add (pe_op op_mod (pv 0) pe_int) (pe_op op_mul (pe_op op_mul pe_int (pv 1)) (pv 1))) (pe_op op_mul pe_int (pv 1))) pe_int) pe_int) pe_int))
      (pss_one (ps_ret (pe_op op_fdiv (pe_op op_mod (pe_op op_mul (pv 2) (pe_op op_add (pe_op op_mod (pv 2) pe_int) pe_int)) pe_int) pe_int)))), ?_⟩)
  · obtain ⟨G, xs, r, e, t, ⟨c, n, rfl, _⟩, _⟩ := h
    exact t.length
  · obtain ⟨G, xs, r, e, t, ⟨c, n, rfl, h0, h1, rfl⟩, k⟩ := h
    have E := env_start (K := K) (N := N_law_mixed) e t
    refine q_asg E (Ed.is (z := .int ((c % 1000000007 + 7919 * n * n + 31 * n + 17) * 48271 % 2147483647)) (ed_opI (ed_opI (ed_opI0 (ed_opI0 (ed_opI0 (ed_opI (ed_var rfl) (ed_int _) (by first | omega | decide | assumption | (unfold CMul; omega) | (unfold CDiv; omega) | (unfold CPow; decide))) (ed_opI (ed_opI (ed_int _) (ed_var rfl) (by first | omega | decide | assumption | (unfold CMul; omega) | (unfold CDiv; omega) | (unfold CPow; decide))) (ed_var rfl) (by first | omega | decide | assumption | (unfold CMul; omega) | (unfold CDiv; omega) | (unfold CPow; decide)))) (ed_opI (ed_int _) (ed_var rfl) (by first | omega | decide | assumption | (unfold CMul; omega) | (unfold CDiv; omega) | (unfold CPow; decide)))) (ed_int _)) (ed_int _) (by first | omega | decide | assumption | (unfold CMul; omega) | (unfold CDiv; omega) | (unfold CPow; decide))) (ed_int _) (by first | omega | decide | assumption | (unfold CMul; omega) | (unfold CDiv; omega) | (unfold CPow; decide))) rfl) fun σ H E => ?_
    have hn : 0 ≤ (c % 1000000007 + 7919 * n * n + 31 * n + 17) * 48271 % 2147483647 ∧ (c % 1000000007 + 7919 * n * n + 31 * n + 17) * 48271 % 2147483647 < 2147483647 := by omega
    refine s_ret E (Ed.is (z := .int (mixed c n)) (ed_opI (ed_opI (ed_opI (ed_var rfl) (ed_opI0 (ed_opI (ed_var rfl) (ed_int _) (by first | omega | decide | assumption | (unfold CMul; omega) | (unfold CDiv; omega) | (unfold CPow; decide))) (ed_int _)) (by first | omega | decide | assumption | (unfold CMul; omega) | (unfold CDiv; omega) | (unfold CPow; decide))) (ed_int _) (by first | omega | decide | assumption | (unfold CMul; omega) | (unfold CDiv; omega) | (unfold CPow; decide))) (ed_int _) (by first | omega | decide | assumption | (unfold CMul; omega) | (unfold CDiv; omega) | (unfold CPow; decide))) rfl) fun v G' H' g t => k v G' H' g t
theorem ok_number (T : Txt K mg) (c_law_mixed : Cal P w K mg base CX0 1 "_law_mixed" P_law_mixed (SpD R_mixed)) (F : FnP K "_law_number" s_law_number f fd) : FnOk P w K mg base CX0 2 f fd P_law_number (SpD (R_number K)) := by
  refine F.ok sc_law_number (fun vs H Q E h => ?_) (fun cdv A outer s H vs Q E hr h => ⟨_, PSs.nox (pss_cons (ps_set (i := 2) sc_law_number.nd rfl (Or.inl rfl) pe_int)
      (pss_cons (ps_if (pt_cmpR op_gt (pe_callB call_len (by rfl) T.fr_len (by decide +kernel) (pa_cons (pv 0) pa_nil)) pe_int (nomark _)) (pss_one (ps_set (i := 2) sc_law_number.nd rfl (Or.inl rfl) (pe_ix ix_list (pv 0) (pe_op op_mod (pv 1) (pe_callB call_len (by rfl) T.fr_len (by decide +kernel) (pa_cons (pv 0) pa_nil))) (fun _ _ => rfl)))) pss_nil)
      (pss_one (ps_ret (pe_callC c_law_mixed (hr.mono (by decide)) (pa_cons (pv 2) (pa_cons (pv 1) pa_nil))))))), ?_⟩)
  · obtain ⟨G, xs, r, e, t, ⟨ns, n, rfl, _⟩, _⟩ := h
    exact t.length
  · obtain ⟨G, xs, r, e, t, ⟨ns, n, rfl, h0, h1, rfl⟩, k⟩ := h
    have E := env_start (K := K) (N := N_law_number) e t
    refine q_asg E (ed_int _) fun σ H E => ?_
    refine q_when E (et_test (ed_opI0 (ed_cb (ea_cons (ed_var rfl) ea_nil) pc_lenScr) (ed_int _))) (fun hb H E => ?_) (fun hb H E => ?_)
    · have hl : 0 < ns.length := by have := of_decide_eq_true hb; omega
      refine s_asg E (ed_ixScr (ed_var rfl) (ed_opI (ed_var rfl) (ed_cb (ea_cons (ed_var rfl) ea_nil) pc_lenScr) (by omega)) (atI_nat 0 (Int.emod_nonneg _ (by omega)) (Int.emod_lt_of_pos _ (by omega)))) fun σ H E => ?_
      refine s_ret E (ed_call0 (ea_cons (ed_var rfl) (ea_cons (ed_var rfl) ea_nil)) ⟨_, _, rfl, h0, h1, rfl⟩) fun v G' H' g t => k v G' H' g ?_
      unfold numb
      rw [if_neg (fun z => by rw [z] at hl; exact absurd hl (by decide))]
      exact t
    · have hl : ns = [] := by
        have := of_decide_eq_false hb
        exact List.length_eq_zero_iff.mp (by omega)
      refine s_ret E (ed_call0 (ea_cons (ed_var rfl) (ea_cons (ed_var rfl) ea_nil)) ⟨_, _, rfl, h0, h1, rfl⟩) fun v G' H' g t => k v G' H' g ?_
      unfold numb
      rw [if_pos hl]
      exact t
theorem ok_text (T : Txt K mg) (c_law_mixed : Cal P w K mg base CX0 1 "_law_mixed" P_law_mixed (SpD R_mixed)) (F : FnP K "_law_text" s_law_text f fd) : FnOk P w K mg base CX0 2 f fd P_law_text (SpD R_text) := by
  refine F.ok sc_law_text (fun vs H Q E h => ?_) (fun cdv A outer s H vs Q E hr h => ⟨_, PSs.nox (pss_cons (ps_set (i := 2) sc_law_text.nd rfl (Or.inr rfl) pe_str)
      (pss_cons (ps_set (i := 3) sc_law_text.nd rfl (Or.inl rfl) (pe_ix ix_list (pe_lst (pa_cons (pe_op op_mod (pe_op op_fdiv (pv 0) pe_int) pe_int) (pa_cons (pe_op op_add pe_int (pe_op op_mod (pe_op op_fdiv (pv 0) pe_int) pe_int)) (pa_cons (pe_op op_add pe_int (pe_op op_mod (pe_op op_fdiv (pv 0) pe_int) pe_int)) pa_nil)))) (pe_op op_mod (pe_op op_fdiv (pv 0) pe_int) pe_int) (fun _ _ => rfl)))
      (pss_cons (ps_set (i := 4) sc_law_text.nd rfl (Or.inl rfl) (pe_bm PySem.F.plainAttrs_str PySem.F.slot_str_join PySem.F.type_str_join mt_join pe_str (pa_cons (pe_lc (own := [("_law_j", 7)]) (g := (gName 7)) (by rfl) sc_law_text.nd (pi_range1 (by rfl) T.fr_range (pa_cons (pv 3) pa_nil)) (blkOk_by (own := [("_law_j", 7)]) (N := N_law_text) (sc := defScope s_law_text) (by decide +kernel)) (fun _ _ _ _ _ => (pg_name (i := 7) sc_law_text.nd rfl (Or.inl rfl))) (fun _ _ _ _ _ => pts_nil) (fun _ _ _ _ _ => (pe_ix ix_str (pv 2) (pe_op op_mod (pe_op op_fdiv (pe_callC c_law_mixed (hr.mono (by decide)) (pa_cons (pv 0) (pa_cons (pe_op op_add (pv 1) (pv 7)) pa_nil))) pe_int) pe_int) (fun _ _ => rfl)))) pa_nil)))
      (pss_cons (ps_set (i := 5) sc_law_text.nd rfl (Or.inl rfl) (pe_op op_mod (pe_op op_fdiv (pv 0) pe_int) (pe_op op_add (pv 3) pe_int)))
      (pss_cons (ps_set (i := 6) sc_law_text.nd rfl (Or.inl rfl) (pe_ix ix_str pe_str (pe_op op_mod (pe_op op_fdiv (pv 0) pe_int) pe_int) (fun _ _ => rfl)))
      (pss_cons (ps_if (pt_cmpR op_eq (pe_op op_mod (pv 0) pe_int) pe_int (nomark _)) (pss_one (ps_ret (pe_op op_add_str (pe_op op_add_str (pe_slice sl_str (pv 4) po_none (po_some (pv 5))) (pv 6)) (pe_slice sl_str (pv 4) (po_some (pv 5)) po_none)))) pss_nil)
      (pss_cons (ps_if (pt_cmpR op_eq (pe_op op_mod (pv 0) pe_int) pe_int (nomark _)) (pss_one (ps_ret (pe_op op_add_str (pe_op op_add_str (pe_slice sl_str (pv 4) po_none (po_some (pv 5))) (pv 6)) (pe_slice sl_str (pv 4) (po_some (pe_op op_add (pv 5) pe_int)) po_none)))) pss_nil)
      (pss_one (ps_ret (pv 4)))))))))), ?_⟩)
  · obtain ⟨G, xs, r, e, t, ⟨ns, n, rfl, _⟩, _⟩ := h
    exact t.length
  · obtain ⟨G, xs, r, e, t, ⟨c, n, rfl, hc, h0, h1, rfl⟩, k⟩ := h
    have E := env_start (K := K) (N := N_law_text) e t
    have hs := tsize_le c
    have hl := tlet_len c n
    have cl : ∀ a b, (cutS (S (tlet c n)) a b).length ≤ 18 := fun a b => by rw [cutS_S, S_len]; exact Nat.le_trans (cutL_len _ _ _) hl
    have sl : (S (tlet c n)).length ≤ sizeLine := by rw [S_len]; exact sizeL (by omega)
    refine q_asg E (ed_str _) fun σ H E => ?_
    refine q_asg E (ed_ixL (xs := [c / 8 % 19, 1 + c / 8 % 16, 15 + c / 8 % 4].map D.int) (d := .int (tsize c)) (EdL.s (el_lst (ea_cons (ed_opI (ed_opI (ed_var rfl) (ed_int _) (by first | omega | decide | assumption | (unfold CMul; omega) | (unfold CDiv; omega) | (unfold CPow; decide) | exact sl | (refine sizeL ?_; have c1 := cl none (some (tat c)); have c2 := cl (some (tat c)) none; have c3 := cl (some (tat c + 1)) none; simp only [len_app, len_one]; omega))) (ed_int _) (by first | omega | decide | assumption | (unfold CMul; omega) | (unfold CDiv; omega) | (unfold CPow; decide) | exact sl | (refine sizeL ?_; have c1 := cl none (some (tat c)); have c2 := cl (some (tat c)) none; have c3 := cl (some (tat c + 1)) none; simp only [len_app, len_one]; omega))) (ea_cons (ed_opI0 (ed_int _) (ed_opI (ed_opI (ed_var rfl) (ed_int _) (by first | omega | decide | assumption | (unfold CMul; omega) | (unfold CDiv; omega) | (unfold CPow; decide) | exact sl | (refine sizeL ?_; have c1 := cl none (some (tat c)); have c2 := cl (some (tat c)) none; have c3 := cl (some (tat c + 1)) none; simp only [len_app, len_one]; omega))) (ed_int _) (by first | omega | decide | assumption | (unfold CMul; omega) | (unfold CDiv; omega) | (unfold CPow; decide) | exact sl | (refine sizeL ?_; have c1 := cl none (some (tat c)); have c2 := cl (some (tat c)) none; have c3 := cl (some (tat c + 1)) none; simp only [len_app, len_one]; omega)))) (ea_cons (ed_opI0 (ed_int _) (ed_opI (ed_opI (ed_var rfl) (ed_int _) (by first | omega | decide | assumption | (unfold CMul; omega) | (unfold CDiv; omega) | (unfold CPow; decide) | exact sl | (refine sizeL ?_; have c1 := cl none (some (tat c)); have c2 := cl (some (tat c)) none; have c3 := cl (some (tat c + 1)) none; simp only [len_app, len_one]; omega))) (ed_int _) (by first | omega | decide | assumption | (unfold CMul; omega) | (unfold CDiv; omega) | (unfold CPow; decide) | exact sl | (refine sizeL ?_; have c1 := cl none (some (tat c)); have c2 := cl (some (tat c)) none; have c3 := cl (some (tat c + 1)) none; simp only [len_app, len_one]; omega)))) ea_nil))) (by first | decide | simp))) (ed_opI (ed_opI (ed_var rfl) (ed_int _) (by first | omega | decide | assumption | (unfold CMul; omega) | (unfold CDiv; omega) | (unfold CPow; decide) | exact sl | (refine sizeL ?_; have c1 := cl none (some (tat c)); have c2 := cl (some (tat c)) none; have c3 := cl (some (tat c + 1)) none; simp only [len_app, len_one]; omega))) (ed_int _) (by first | omega | decide | assumption | (unfold CMul; omega) | (unfold CDiv; omega) | (unfold CPow; decide) | exact sl | (refine sizeL ?_; have c1 := cl none (some (tat c)); have c2 := cl (some (tat c)) none; have c3 := cl (some (tat c + 1)) none; simp only [len_app, len_one]; omega))) ?_) fun σ H E => ?_
    · rw [atI_nat (D.int 0) (by omega) (by show _ < (3 : Int); omega), List.getD_eq_getElem?_getD, List.getElem?_map]
      unfold tsize
      rw [List.getD_eq_getElem?_getD]
      have h : c / 152 % 3 = 0 ∨ c / 152 % 3 = 1 ∨ c / 152 % 3 = 2 := by omega
      rcases h with h | h | h <;> rw [h] <;> rfl
    refine q_asg E (Ed.is (z := .str (S (tlet c n))) (ed_join (ys := (tlet c n).map fun c => ⟨#[c]⟩) (ed_str _) (EdL.s (EdL.is (el_lcm (ys := List.range (tsize c).toNat) (src := fun (j : Nat) => D.int (0 + (j : Int))) (h := fun (j : Nat) => .str ⟨#[LET.getD (mixed c (n + (0 + (j : Int))) / 5 % 26).toNat 0]⟩) (ei_rng1 (ea_cons (ed_var rfl) ea_nil) (by omega) (by omega)) (by rw [List.length_range]; omega) (by decide) fun j hj => ?_) ?_)) ?_) ?_) fun σ H E => ?_
    · have hj := List.mem_range.mp hj
      refine ed_ixS (ed_var rfl) (ed_opI (ed_opI (ed_call0 (ea_cons (ed_var rfl) (ea_cons (ed_opI0 (ed_var rfl) (ed_var rfl)) ea_nil)) ⟨_, _, rfl, by omega, by omega, rfl⟩) (ed_int _) (by walk_at "sd")) (ed_int _) (by walk_at "sd")) (by decide +kernel) ?_
      refine atI_nat (xs := LET) 0 (by omega) (by rw [let_len]; omega)
    · unfold tlet
      rw [List.map_map, List.map_map]
      rfl
    · rw [List.map_map]
      have z : ((tlet c n).map ((fun x => x.length) ∘ fun c => (⟨#[c]⟩ : Str))).sum = (tlet c n).length := by
        exact sum_ones _
      rw [z, List.length_map]
      have : (Str.ofString "").length = 0 := by decide +kernel
      rw [this]
      omega
    · rw [join_signs]
    refine q_asg E (Ed.is (z := .int (tat c)) (ed_opI (ed_opI (ed_var rfl) (ed_int _) (by first | omega | decide | assumption | (unfold CMul; omega) | (unfold CDiv; omega) | (unfold CPow; decide) | exact sl | (refine sizeL ?_; have c1 := cl none (some (tat c)); have c2 := cl (some (tat c)) none; have c3 := cl (some (tat c + 1)) none; simp only [len_app, len_one]; omega))) (ed_opI0 (ed_var rfl) (ed_int _)) (by first | omega | decide | assumption | (unfold CMul; omega) | (unfold CDiv; omega) | (unfold CPow; decide) | exact sl | (refine sizeL ?_; have c1 := cl none (some (tat c)); have c2 := cl (some (tat c)) none; have c3 := cl (some (tat c + 1)) none; simp only [len_app, len_one]; omega))) rfl) fun σ H E => ?_
    refine q_asg E (ed_ixS (c := tsign c) (ed_str _) (ed_opI (ed_opI (ed_var rfl) (ed_int _) (by first | omega | decide | assumption | (unfold CMul; omega) | (unfold CDiv; omega) | (unfold CPow; decide) | exact sl | (refine sizeL ?_; have c1 := cl none (some (tat c)); have c2 := cl (some (tat c)) none; have c3 := cl (some (tat c + 1)) none; simp only [len_app, len_one]; omega))) (ed_int _) (by first | omega | decide | assumption | (unfold CMul; omega) | (unfold CDiv; omega) | (unfold CPow; decide) | exact sl | (refine sizeL ?_; have c1 := cl none (some (tat c)); have c2 := cl (some (tat c)) none; have c3 := cl (some (tat c + 1)) none; simp only [len_app, len_one]; omega))) (by decide +kernel) (atI_nat (xs := SIGNS) 0 (by omega) (by rw [signs_len]; omega))) fun σ H E => ?_
    refine q_when E (et_test (ed_eqI (ed_opI (ed_var rfl) (ed_int _) (by walk_at "sd")) (ed_int _))) (fun hb H E => ?_) (fun hb H E => ?_)
    · have hb := of_decide_eq_true hb
      refine s_ret E (ed_addS (ed_addS (ed_slS (ed_var rfl) eo_none (eo_some (ed_var rfl)) (by first | omega | decide | assumption | (unfold CMul; omega) | (unfold CDiv; omega) | (unfold CPow; decide) | exact sl | (refine sizeL ?_; have c1 := cl none (some (tat c)); have c2 := cl (some (tat c)) none; have c3 := cl (some (tat c + 1)) none; simp only [len_app, len_one]; omega))) (ed_var rfl) (by first | omega | decide | assumption | (unfold CMul; omega) | (unfold CDiv; omega) | (unfold CPow; decide) | exact sl | (refine sizeL ?_; have c1 := cl none (some (tat c)); have c2 := cl (some (tat c)) none; have c3 := cl (some (tat c + 1)) none; simp only [len_app, len_one]; omega))) (ed_slS (ed_var rfl) (eo_some (ed_var rfl)) eo_none (by first | omega | decide | assumption | (unfold CMul; omega) | (unfold CDiv; omega) | (unfold CPow; decide) | exact sl | (refine sizeL ?_; have c1 := cl none (some (tat c)); have c2 := cl (some (tat c)) none; have c3 := cl (some (tat c + 1)) none; simp only [len_app, len_one]; omega))) (by first | omega | decide | assumption | (unfold CMul; omega) | (unfold CDiv; omega) | (unfold CPow; decide) | exact sl | (refine sizeL ?_; have c1 := cl none (some (tat c)); have c2 := cl (some (tat c)) none; have c3 := cl (some (tat c + 1)) none; simp only [len_app, len_one]; omega))) fun v G' H' g t => k v G' H' g ?_
      unfold text
      rw [if_pos hb]
      exact t
    have hb := of_decide_eq_false hb
    refine q_when E (et_test (ed_eqI (ed_opI (ed_var rfl) (ed_int _) (by walk_at "sd")) (ed_int _))) (fun hb2 H E => ?_) (fun hb2 H E => ?_)
    · have hb2 := of_decide_eq_true hb2
      refine s_ret E (ed_addS (ed_addS (ed_slS (ed_var rfl) eo_none (eo_some (ed_var rfl)) (by first | omega | decide | assumption | (unfold CMul; omega) | (unfold CDiv; omega) | (unfold CPow; decide) | exact sl | (refine sizeL ?_; have c1 := cl none (some (tat c)); have c2 := cl (some (tat c)) none; have c3 := cl (some (tat c + 1)) none; simp only [len_app, len_one]; omega))) (ed_var rfl) (by first | omega | decide | assumption | (unfold CMul; omega) | (unfold CDiv; omega) | (unfold CPow; decide) | exact sl | (refine sizeL ?_; have c1 := cl none (some (tat c)); have c2 := cl (some (tat c)) none; have c3 := cl (some (tat c + 1)) none; simp only [len_app, len_one]; omega))) (ed_slS (ed_var rfl) (eo_some (ed_opI0 (ed_var rfl) (ed_int _))) eo_none (by first | omega | decide | assumption | (unfold CMul; omega) | (unfold CDiv; omega) | (unfold CPow; decide) | exact sl | (refine sizeL ?_; have c1 := cl none (some (tat c)); have c2 := cl (some (tat c)) none; have c3 := cl (some (tat c + 1)) none; simp only [len_app, len_one]; omega))) (by first | omega | decide | assumption | (unfold CMul; omega) | (unfold CDiv; omega) | (unfold CPow; decide) | exact sl | (refine sizeL ?_; have c1 := cl none (some (tat c)); have c2 := cl (some (tat c)) none; have c3 := cl (some (tat c + 1)) none; simp only [len_app, len_one]; omega))) fun v G' H' g t => k v G' H' g ?_
      unfold text
      rw [if_neg hb, if_pos hb2]
      exact t
    · have hb2 := of_decide_eq_false hb2
      refine s_ret E (ed_var rfl) fun v G' H' g t => k v G' H' g ?_
      unfold text
      rw [if_neg hb, if_neg hb2]
      exact t
theorem ok_kind (T : Txt K mg) (F : FnP K "_law_kind" s_law_kind f fd) : FnOk P w K mg base CX0 1 f fd P_law_kind (SpD (R_kind K)) := by
  refine F.ok sc_law_kind (fun vs H Q E h => ?_) (fun cdv A outer s H vs Q E hr h => ⟨_, PSs.nox (pss_cons (ps_set (i := 1) sc_law_kind.nd rfl (Or.inl rfl) (pe_op op_cat (pe_op op_rep (pe_lst (pa_cons pe_str pa_nil)) (pe_callTy call_int1 (by rfl) T.fr_int (by decide +kernel) (pa_cons (pe_callB call_isX (by rfl) T.fr_isinstance (by decide +kernel) (pa_cons (pv 0) (pa_cons (pe_gcls rfl T.c_BadWord) pa_nil))) pa_nil))) (pe_op op_rep (pe_lst (pa_cons pe_str pa_nil)) (pe_callTy call_int1 (by rfl) T.fr_int (by decide +kernel) (pa_cons (pe_callB call_isX (by rfl) T.fr_isinstance (by decide +kernel) (pa_cons (pv 0) (pa_cons (pe_gcls rfl T.c_BadRule) pa_nil))) pa_nil)))))
      (pss_cons (ps_set (i := 1) sc_law_kind.nd rfl (Or.inl rfl) (pe_op op_cat (pe_op op_cat (pv 1) (pe_op op_rep (pe_lst (pa_cons pe_str pa_nil)) (pe_callTy call_int1 (by rfl) T.fr_int (by decide +kernel) (pa_cons (pe_callB call_isX (by rfl) T.fr_isinstance (by decide +kernel) (pa_cons (pv 0) (pa_cons (pe_gcls rfl T.c_BadText) pa_nil))) pa_nil)))) (pe_op op_rep (pe_lst (pa_cons pe_str pa_nil)) (pe_callTy call_int1 (by rfl) T.fr_int (by decide +kernel) (pa_cons (pe_callB call_isX (by rfl) T.fr_isinstance (by decide +kernel) (pa_cons (pv 0) (pa_cons (pe_gcls rfl T.c_Twice) pa_nil))) pa_nil)))))
      (pss_cons (ps_set (i := 1) sc_law_kind.nd rfl (Or.inl rfl) (pe_op op_cat (pe_op op_cat (pv 1) (pe_op op_rep (pe_lst (pa_cons pe_str pa_nil)) (pe_callTy call_int1 (by rfl) T.fr_int (by decide +kernel) (pa_cons (pe_callB call_isX (by rfl) T.fr_isinstance (by decide +kernel) (pa_cons (pv 0) (pa_cons (pe_gcls rfl T.c_NoStem) pa_nil))) pa_nil)))) (pe_op op_rep (pe_lst (pa_cons pe_str pa_nil)) (pe_callTy call_int1 (by rfl) T.fr_int (by decide +kernel) (pa_cons (pe_callB call_isX (by rfl) T.fr_isinstance (by decide +kernel) (pa_cons (pv 0) (pa_cons (pe_gcls rfl T.c_NoClass) pa_nil))) pa_nil)))))
      (pss_cons (ps_set (i := 1) sc_law_kind.nd rfl (Or.inl rfl) (pe_op op_cat (pe_op op_cat (pv 1) (pe_op op_rep (pe_lst (pa_cons pe_str pa_nil)) (pe_callTy call_int1 (by rfl) T.fr_int (by decide +kernel) (pa_cons (pe_callB call_isX (by rfl) T.fr_isinstance (by decide +kernel) (pa_cons (pv 0) (pa_cons (pe_gcls rfl T.c_InUse) pa_nil))) pa_nil)))) (pe_op op_rep (pe_lst (pa_cons pe_str pa_nil)) (pe_callTy call_int1 (by rfl) T.fr_int (by decide +kernel) (pa_cons (pe_callB call_isX (by rfl) T.fr_isinstance (by decide +kernel) (pa_cons (pv 0) (pa_cons (pe_gcls rfl T.c_TooMany) pa_nil))) pa_nil)))))
      (pss_cons (ps_set (i := 1) sc_law_kind.nd rfl (Or.inl rfl) (pe_op op_cat (pe_op op_cat (pv 1) (pe_op op_rep (pe_lst (pa_cons pe_str pa_nil)) (pe_callTy call_int1 (by rfl) T.fr_int (by decide +kernel) (pa_cons (pe_callB call_isX (by rfl) T.fr_isinstance (by decide +kernel) (pa_cons (pv 0) (pa_cons (pe_gcls rfl T.c_NoNumber) pa_nil))) pa_nil)))) (pe_op op_rep (pe_lst (pa_cons pe_str pa_nil)) (pe_callTy call_int1 (by rfl) T.fr_int (by decide +kernel) (pa_cons (pe_callB call_isX (by rfl) T.fr_isinstance (by decide +kernel) (pa_cons (pv 0) (pa_cons (pe_gcls rfl T.c_NoWord) pa_nil))) pa_nil)))))
      (pss_cons (ps_set (i := 1) sc_law_kind.nd rfl (Or.inl rfl) (pe_op op_cat (pe_op op_cat (pv 1) (pe_op op_rep (pe_lst (pa_cons pe_str pa_nil)) (pe_callTy call_int1 (by rfl) T.fr_int (by decide +kernel) (pa_cons (pe_callB call_isX (by rfl) T.fr_isinstance (by decide +kernel) (pa_cons (pv 0) (pa_cons (pe_gcls rfl T.c_BadPrice) pa_nil))) pa_nil)))) (pe_op op_rep (pe_lst (pa_cons pe_str pa_nil)) (pe_callTy call_int1 (by rfl) T.fr_int (by decide +kernel) (pa_cons (pe_callB call_isX (by rfl) T.fr_isinstance (by decide +kernel) (pa_cons (pv 0) (pa_cons (pe_gcls rfl T.c_NoPlace) pa_nil))) pa_nil)))))
      (pss_cons (ps_set (i := 1) sc_law_kind.nd rfl (Or.inl rfl) (pe_op op_cat (pv 1) (pe_op op_rep (pe_lst (pa_cons pe_str pa_nil)) (pe_callTy call_int1 (by rfl) T.fr_int (by decide +kernel) (pa_cons (pe_callB call_isX (by rfl) T.fr_isinstance (by decide +kernel) (pa_cons (pv 0) (pa_cons (pe_gcls rfl T.c_BadPattern) pa_nil))) pa_nil)))))
      (pss_one (ps_ret (pe_bm PySem.F.plainAttrs_str PySem.F.slot_str_join PySem.F.type_str_join mt_join pe_str (pa_cons (pe_op op_cat (pv 1) (pe_op op_rep (pe_lst (pa_cons pe_str pa_nil)) (pe_callTy call_int1 (by rfl) T.fr_int (by decide +kernel) (pa_cons (pe_not (pe_callB call_isX (by rfl) T.fr_isinstance (by decide +kernel) (pa_cons (pv 0) (pa_cons (pe_bty (n := "ValueError") rfl T.fr_ValueError (by decide +kernel)) pa_nil)))) pa_nil)))) pa_nil))))))))))), ?_⟩)
  · obtain ⟨G, xs, r, e, t, ⟨rfl, _⟩, _⟩ := h
    exact t.length
  · obtain ⟨G, xs, r, e, t, ⟨rfl, rfl⟩, k⟩ := h
    have E := env_start (K := K) (N := N_law_kind) e t
    refine q_asg E (Ed.is (z := .lst [.str "word"]) (EdL.ed (el_cat (EdL.s (el_rep (EdL.s (el_lst (ea_cons (ed_str _) ea_nil) (by first | decide | simp))) (ed_cb (ea_cons (ed_isX (ed_var rfl) T.exc_BadWord (.own _) T.is_BadWord_BadWord) ea_nil) pc_intB) (by first | omega | decide | assumption | (unfold CMul; omega) | (unfold CDiv; omega)) (by first | omega | decide | assumption | (unfold CMul; omega) | (unfold CDiv; omega)) (by first | omega | decide | assumption | (unfold CMul; omega) | (unfold CDiv; omega)))) (EdL.s (el_rep (EdL.s (el_lst (ea_cons (ed_str _) ea_nil) (by first | decide | simp))) (ed_cb (ea_cons (ed_isX (ed_var rfl) T.exc_BadWord (.own _) T.is_BadWord_BadRule) ea_nil) pc_intB) (by first | omega | decide | assumption | (unfold CMul; omega) | (unfold CDiv; omega)) (by first | omega | decide | assumption | (unfold CMul; omega) | (unfold CDiv; omega)) (by first | omega | decide | assumption | (unfold CMul; omega) | (unfold CDiv; omega)))) (by first | omega | decide | assumption | (unfold CMul; omega) | (unfold CDiv; omega)))) rfl) fun σ H E => ?_
    refine q_asg E (Ed.is (z := .lst [.str "word"]) (EdL.ed (el_cat (EdL.s (el_cat (Ed.s (ed_var rfl)) (EdL.s (el_rep (EdL.s (el_lst (ea_cons (ed_str _) ea_nil) (by first | decide | simp))) (ed_cb (ea_cons (ed_isX (ed_var rfl) T.exc_BadWord (.own _) T.is_BadWord_BadText) ea_nil) pc_intB) (by first | omega | decide | assumption | (unfold CMul; omega) | (unfold CDiv; omega)) (by first | omega | decide | assumption | (unfold CMul; omega) | (unfold CDiv; omega)) (by first | omega | decide | assumption | (unfold CMul; omega) | (unfold CDiv; omega)))) (by first | omega | decide | assumption | (unfold CMul; omega) | (unfold CDiv; omega)))) (EdL.s (el_rep (EdL.s (el_lst (ea_cons (ed_str _) ea_nil) (by first | decide | simp))) (ed_cb (ea_cons (ed_isX (ed_var rfl) T.exc_BadWord (.own _) T.is_BadWord_Twice) ea_nil) pc_intB) (by first | omega | decide | assumption | (unfold CMul; omega) | (unfold CDiv; omega)) (by first | omega | decide | assumption | (unfold CMul; omega) | (unfold CDiv; omega)) (by first | omega | decide | assumption | (unfold CMul; omega) | (unfold CDiv; omega)))) (by first | omega | decide | assumption | (unfold CMul; omega) | (unfold CDiv; omega)))) rfl) fun σ H E => ?_
    refine q_asg E (Ed.is (z := .lst [.str "word"]) (EdL.ed (el_cat (EdL.s (el_cat (Ed.s (ed_var rfl)) (EdL.s (el_rep (EdL.s (el_lst (ea_cons (ed_str _) ea_nil) (by first | decide | simp))) (ed_cb (ea_cons (ed_isX (ed_var rfl) T.exc_BadWord (.own _) T.is_BadWord_NoStem) ea_nil) pc_intB) (by first | omega | decide | assumption | (unfold CMul; omega) | (unfold CDiv; omega)) (by first | omega | decide | assumption | (unfold CMul; omega) | (unfold CDiv; omega)) (by first | omega | decide | assumption | (unfold CMul; omega) | (unfold CDiv; omega)))) (by first | omega | decide | assumption | (unfold CMul; omega) | (unfold CDiv; omega)))) (EdL.s (el_rep (EdL.s (el_lst (ea_cons (ed_str _) ea_nil) (by first | decide | simp))) (ed_cb (ea_cons (ed_isX (ed_var rfl) T.exc_BadWord (.own _) T.is_BadWord_NoClass) ea_nil) pc_intB) (by first | omega | decide | assumption | (unfold CMul; omega) | (unfold CDiv; omega)) (by first | omega | decide | assumption | (unfold CMul; omega) | (unfold CDiv; omega)) (by first | omega | decide | assumption | (unfold CMul; omega) | (unfold CDiv; omega)))) (by first | omega | decide | assumption | (unfold CMul; omega) | (unfold CDiv; omega)))) rfl) fun σ H E => ?_
    refine q_asg E (Ed.is (z := .lst [.str "word"]) (EdL.ed (el_cat (EdL.s (el_cat (Ed.s (ed_var rfl)) (EdL.s (el_rep (EdL.s (el_lst (ea_cons (ed_str _) ea_nil) (by first | decide | simp))) (ed_cb (ea_cons (ed_isX (ed_var rfl) T.exc_BadWord (.own _) T.is_BadWord_InUse) ea_nil) pc_intB) (by first | omega | decide | assumption | (unfold CMul; omega) | (unfold CDiv; omega)) (by first | omega | decide | assumption | (unfold CMul; omega) | (unfold CDiv; omega)) (by first | omega | decide | assumption | (unfold CMul; omega) | (unfold CDiv; omega)))) (by first | omega | decide | assumption | (unfold CMul; omega) | (unfold CDiv; omega)))) (EdL.s (el_rep (EdL.s (el_lst (ea_cons (ed_str _) ea_nil) (by first | decide | simp))) (ed_cb (ea_cons (ed_isX (ed_var rfl) T.exc_BadWord (.own _) T.is_BadWord_TooMany) ea_nil) pc_intB) (by first | omega | decide | assumption | (unfold CMul; omega) | (unfold CDiv; omega)) (by first | omega | decide | assumption | (unfold CMul; omega) | (unfold CDiv; omega)) (by first | omega | decide | assumption | (unfold CMul; omega) | (unfold CDiv; omega)))) (by first | omega | decide | assumption | (unfold CMul; omega) | (unfold CDiv; omega)))) rfl) fun σ H E => ?_
    refine q_asg E (Ed.is (z := .lst [.str "word"]) (EdL.ed (el_cat (EdL.s (el_cat (Ed.s (ed_var rfl)) (EdL.s (el_rep (EdL.s (el_lst (ea_cons (ed_str _) ea_nil) (by first | decide | simp))) (ed_cb (ea_cons (ed_isX (ed_var rfl) T.exc_BadWord (.own _) T.is_BadWord_NoNumber) ea_nil) pc_intB) (by first | omega | decide | assumption | (unfold CMul; omega) | (unfold CDiv; omega)) (by first | omega | decide | assumption | (unfold CMul; omega) | (unfold CDiv; omega)) (by first | omega | decide | assumption | (unfold CMul; omega) | (unfold CDiv; omega)))) (by first | omega | decide | assumption | (unfold CMul; omega) | (unfold CDiv; omega)))) (EdL.s (el_rep (EdL.s (el_lst (ea_cons (ed_str _) ea_nil) (by first | decide | simp))) (ed_cb (ea_cons (ed_isX (ed_var rfl) T.exc_BadWord (.own _) T.is_BadWord_NoWord) ea_nil) pc_intB) (by first | omega | decide | assumption | (unfold CMul; omega) | (unfold CDiv; omega)) (by first | omega | decide | assumption | (unfold CMul; omega) | (unfold CDiv; omega)) (by first | omega | decide | assumption | (unfold CMul; omega) | (unfold CDiv; omega)))) (by first | omega | decide | assumption | (unfold CMul; omega) | (unfold CDiv; omega)))) rfl) fun σ H E => ?_
    refine q_asg E (Ed.is (z := .lst [.str "word"]) (EdL.ed (el_cat (EdL.s (el_cat (Ed.s (ed_var rfl)) (EdL.s (el_rep (EdL.s (el_lst (ea_cons (ed_str _) ea_nil) (by first | decide | simp))) (ed_cb (ea_cons (ed_isX (ed_var rfl) T.exc_BadWord (.own _) T.is_BadWord_BadPrice) ea_nil) pc_intB) (by first | omega | decide | assumption | (unfold CMul; omega) | (unfold CDiv; omega)) (by first | omega | decide | assumption | (unfold CMul; omega) | (unfold CDiv; omega)) (by first | omega | decide | assumption | (unfold CMul; omega) | (unfold CDiv; omega)))) (by first | omega | decide | assumption | (unfold CMul; omega) | (unfold CDiv; omega)))) (EdL.s (el_rep (EdL.s (el_lst (ea_cons (ed_str _) ea_nil) (by first | decide | simp))) (ed_cb (ea_cons (ed_isX (ed_var rfl) T.exc_BadWord (.own _) T.is_BadWord_NoPlace) ea_nil) pc_intB) (by first | omega | decide | assumption | (unfold CMul; omega) | (unfold CDiv; omega)) (by first | omega | decide | assumption | (unfold CMul; omega) | (unfold CDiv; omega)) (by first | omega | decide | assumption | (unfold CMul; omega) | (unfold CDiv; omega)))) (by first | omega | decide | assumption | (unfold CMul; omega) | (unfold CDiv; omega)))) rfl) fun σ H E => ?_
    refine q_asg E (Ed.is (z := .lst [.str "word"]) (EdL.ed (el_cat (Ed.s (ed_var rfl)) (EdL.s (el_rep (EdL.s (el_lst (ea_cons (ed_str _) ea_nil) (by first | decide | simp))) (ed_cb (ea_cons (ed_isX (ed_var rfl) T.exc_BadWord (.own _) T.is_BadWord_BadPattern) ea_nil) pc_intB) (by first | omega | decide | assumption | (unfold CMul; omega) | (unfold CDiv; omega)) (by first | omega | decide | assumption | (unfold CMul; omega) | (unfold CDiv; omega)) (by first | omega | decide | assumption | (unfold CMul; omega) | (unfold CDiv; omega)))) (by first | omega | decide | assumption | (unfold CMul; omega) | (unfold CDiv; omega)))) rfl) fun σ H E => ?_
    refine s_ret E (Ed.is (z := .str "word") (ed_join (ys := ["word"]) (ed_str _) (EdL.s (EdL.is (ys := ([("word" : Str)]).map D.str) (el_cat (Ed.s (ed_var rfl)) (EdL.s (el_rep (EdL.s (el_lst (ea_cons (ed_str _) ea_nil) (by first | decide | simp))) (ed_cb (ea_cons (ed_notV (ed_isX (ed_var rfl) T.exc_BadWord (.ty _) T.is_BadWord_ValueError)) ea_nil) pc_intB) (by first | omega | decide | assumption | (unfold CMul; omega) | (unfold CDiv; omega)) (by first | omega | decide | assumption | (unfold CMul; omega) | (unfold CDiv; omega)) (by first | omega | decide | assumption | (unfold CMul; omega) | (unfold CDiv; omega)))) (by first | omega | decide | assumption | (unfold CMul; omega) | (unfold CDiv; omega))) rfl)) (by decide +kernel)) ?_) fun v G' H' g t => k v G' H' g t
    rw [TL.join_eq]
    rfl
theorem ok_isl (T : Txt K mg) (F : FnP K "_law_is_letters" s_law_is_letters f fd) : FnOk P w K mg base CX0 1 f fd P_law_is_letters (SpD R_isl) := by
  refine F.ok sc_law_is_letters (fun vs H Q E h => ?_) (fun cdv A outer s H vs Q E hr h => ⟨_, PSs.nox (pss_cons (ps_if (pt_not (pt_val (pe_callB call_isi (by rfl) T.fr_isinstance (by decide +kernel) (pa_cons (pv 0) (pa_cons (pe_bty (n := "str") rfl T.fr_str (by decide +kernel)) pa_nil))))) (pss_one (ps_ret pe_bl)) pss_nil)
      (pss_one (ps_ret (pe_cmpR (op_eqD hr.units) (pe_lc (own := [("_law_sign", 1)]) (g := (gName 1)) (by rfl) sc_law_is_letters.nd (pi_str (pv 0)) (blkOk_by (own := [("_law_sign", 1)]) (N := N_law_is_letters) (sc := defScope s_law_is_letters) (by decide +kernel)) (fun _ _ _ _ _ => (pg_name (i := 1) sc_law_is_letters.nd rfl (Or.inl rfl))) (fun _ _ _ _ _ => (pts_one (pt_not (pt_chain op_le_str op_le_str pe_str (pv 1) pe_str)))) (fun _ _ _ _ _ => (pv 1))) (pe_lst pa_nil) (nomark _))))), ?_⟩)
  · obtain ⟨G, xs, r, e, t, ⟨d, rfl, _⟩, _⟩ := h
    exact t.length
  · obtain ⟨G, xs, r, e, t, ⟨d, rfl, hd, rfl⟩, k⟩ := h
    have E := env_start (K := K) (N := N_law_is_letters) e t
    obtain ⟨m, hm, hk⟩ := thing_str hd
    refine q_when E (et_not (et_B (ed_isi (Ed.h (ed_var rfl)) hm hk))) (fun hb H E => ?_) (fun hb H E => ?_)
    · refine s_ret E (ed_bl _) fun v G' H' g t => k v G' H' g ?_
      have e : lett d = false := by
        cases d <;> first | rfl | (simp only [isStr] at hb; cases hb)
      rw [e]
      exact t
    · obtain ⟨s, rfl⟩ := isStr_of (d := d) (by simpa using hb)
      obtain ⟨_, _, hs⟩ := hd
      obtain ⟨h1, h2⟩ := hs s rfl
      have hl : s.cps.toList.length ≤ 40000 := by show s.cps.size ≤ _; unfold Str.length at h1; omega
      have hok := ok_of.mp h2
      have okf : ∀ z ∈ (s.cps.toList.filter fun c => !decide (c ∈ LET)).map (fun c => (⟨#[c]⟩ : Str)), PyData.strOk z = true := fun z hz => by
        obtain ⟨c, hc, rfl⟩ := List.mem_map.mp hz
        exact ok_S (.one (hok c (List.mem_filter.mp hc).1))
      refine s_ret E (ed_opH (Ed.h (EdL.ed (EdL.is (ys := ((s.cps.toList.filter fun c => !decide (c ∈ LET)).map (fun c => (⟨#[c]⟩ : Str))).map D.str) (el_lcf (ys := s.cps.toList) (src := fun c => .str ⟨#[c]⟩) (p := fun c => !decide (c ∈ LET)) (h := fun c => .str ⟨#[c]⟩) (ei_str (ed_var rfl)) hl (by decide) (fun c _ => ?_) (fun c _ _ => ed_var rfl)) ?_))) (Ed.h (EdL.ed (EdL.is (ys := ([] : List Str).map D.str) (el_lst ea_nil (by decide)) rfl))) (p2_eqD (py_strs _) (py_strs _) (Flat.strs okf).shaped (Flat.strs (fun z hz => by cases hz)).shaped) rfl) fun v G' H' g t => k v G' H' g ?_
      · rw [← a_z]
        exact et_not (et_test (ed_chain (ed_str _) (ed_var rfl) p2_leS (fun _ => ed_str _) (fun _ => p2_leS)))
      · rw [List.map_map]
        rfl
      · rw [eqv_strs] at t
        have e : decide ((s.cps.toList.filter fun c => !decide (c ∈ LET)).map (fun c => (⟨#[c]⟩ : Str)) = []) = lett (.str s) := by
          unfold lett
          rw [Bool.eq_iff_iff]
          simp only [decide_eq_true_eq, List.map_eq_nil_iff, List.filter_eq_nil_iff, List.all_eq_true, Bool.not_eq_true', decide_eq_false_iff_not, Decidable.not_not]
        rw [e] at t
        exact t
theorem ok_refused (T : Txt K mg) (c_need_word : Cal P w K mg base (L2.CX P w) 3 "need_word" P_need_word (SpO (R_need_word K))) (c_law_kind : Cal P w K mg base CX0 1 "_law_kind" P_law_kind (SpD (R_kind K))) (F : FnP K "_law_refused" s_law_refused f fd) : FnOk P w K mg base CX0 4 f fd P_law_refused (SpD R_refused) := by
  refine F.ok sc_law_refused (fun vs H Q E h => ?_) (fun cdv A outer s H vs Q E hr h => ⟨_, PSs.nox (pss_cons (ps_set (i := 1) sc_law_refused.nd rfl (Or.inl rfl) pe_non)
      (pss_cons (ps_set (i := 2) sc_law_refused.nd rfl (Or.inl rfl) pe_int)
      (pss_cons (ps_try_keep rfl rfl rfl sc_law_refused.nd (i := 3) rfl rfl ⟨rfl, by decide, Or.inl T.c_MendError⟩ (fun W pn xe tk _ => (pss_one (ps_set (i := 2) sc_law_refused.nd rfl (Or.inl rfl) (pe_callX c_need_word (hr.mono (by decide)) tk (pa_cons (pv 0) pa_nil))))) (fun a oe pn => (pss_one (ps_set (i := 1) sc_law_refused.nd rfl (Or.inl rfl) (pv 3)))))
      (pss_cons (ps_if (pt_cmpR op_isN (pv 1) pe_non (nomark _)) (pss_one (ps_ret (pe_ifExp (pt_cmpR op_isN (pv 2) pe_non (nomark _)) pe_str pe_str))) pss_nil)
      (pss_one (ps_ret (pe_callC c_law_kind (hr.mono (by decide)) (pa_cons (pv 1) pa_nil)))))))), ?_⟩)
  · obtain ⟨G, xs, r, e, t, ⟨d, rfl, _⟩, _⟩ := h
    exact t.length
  · obtain ⟨G, xs, r, e, t, ⟨d, rfl, hd, rfl⟩, k⟩ := h
    have E := env_start (K := K) (N := N_law_refused) e t
    refine q_asg E ed_non fun σ H E => ?_
    refine q_asg E (ed_int _) fun σ H E => ?_
    by_cases hw : word d = true
    · refine q_asg E (ed_callX (z := .non) (ea_cons (ed_var rfl) ea_nil) ⟨d, rfl, hd, by rw [if_pos hw]⟩) fun σ H E => ?_
      refine q_when E (et_test (ed_isN (b := true) (ed_var rfl) rfl)) (fun hb H E => ?_) (fun hb H E => by cases hb)
      refine s_ret E (Ed.is (z := .str "") (ed_ite (et_test (ed_isN (b := true) (ed_var rfl) rfl)) (fun _ => ed_str _) (fun _ => ed_str _)) rfl) fun v G' H' g t => k v G' H' g ?_
      rw [if_pos hw]
      exact t
    · refine q_asgX E (ea_cons (ed_var rfl) ea_nil) ⟨d, rfl, hd, by rw [if_neg hw]⟩ fun H E => ?_
      refine keep_suite E (by decide) (by show 3 < 4; decide) (by show 1 < 4; decide) T.m_BadWord fun σ H E => ?_
      refine q_when E (et_test (ed_isN (b := false) (ed_var rfl) rfl)) (fun hb H E => by cases hb) (fun hb H E => ?_)
      refine s_ret E (ed_call0 (ea_cons (ed_var rfl) ea_nil) ⟨rfl, rfl⟩) fun v G' H' g t => k v G' H' g ?_
      rw [if_neg hw]
      exact t
theorem ok_right (T : Txt K mg) (c_law_is_letters : Cal P w K mg base CX0 1 "_law_is_letters" P_law_is_letters (SpD R_isl)) (c_are_letters : Cal P w K mg base CX0 1 "are_letters" P_are_letters (SpD R_are_letters)) (c_is_word : Cal P w K mg base CX0 2 "is_word" P_is_word (SpD R_is_word))
    (c_law_refused : Cal P w K mg base CX0 4 "_law_refused" P_law_refused (SpD R_refused)) (F : FnP K "_law_right" s_law_right f fd) : FnOk P w K mg base CX0 5 f fd P_law_right (SpD R_right) := by
  refine F.ok sc_law_right (fun vs H Q E h => ?_) (fun cdv A outer s H vs Q E hr h => ⟨_, PSs.nox (pss_cons (ps_set (i := 1) sc_law_right.nd rfl (Or.inl rfl) (pe_callC c_law_is_letters (hr.mono (by decide)) (pa_cons (pv 0) pa_nil)))
      (pss_cons (ps_set (i := 2) sc_law_right.nd rfl (Or.inl rfl) (pe_and (pv 1) (pe_one (pe_chain op_le op_le pe_int (pe_callB call_len (by rfl) T.fr_len (by decide +kernel) (pa_cons (pv 0) pa_nil)) pe_int))))
      (pss_cons (ps_if (PW.pt (pw_or (pt_cmpR op_ne (pe_callB call_reprS (by rfl) T.fr_repr (by decide +kernel) (pa_cons (pe_callC c_are_letters (hr.mono (by decide)) (pa_cons (pv 0) pa_nil)) pa_nil)) (pe_callB call_reprS (by rfl) T.fr_repr (by decide +kernel) (pa_cons (pv 1) pa_nil)) (nomark _)) (pw_or1 (pt_cmpR op_ne (pe_callB call_reprS (by rfl) T.fr_repr (by decide +kernel) (pa_cons (pe_callC c_is_word (hr.mono (by decide)) (pa_cons (pv 0) pa_nil)) pa_nil)) (pe_callB call_reprS (by rfl) T.fr_repr (by decide +kernel) (pa_cons (pv 2) pa_nil)) (nomark _))))) (pss_one (ps_ret pe_bl)) pss_nil)
      (pss_one (ps_ret (pe_cmpR op_eq (pe_callC c_law_refused (hr.mono (by decide)) (pa_cons (pv 0) pa_nil)) (pe_ifExp (pt_val (pv 2)) pe_str pe_str) (nomark _))))))), ?_⟩)
  · obtain ⟨G, xs, r, e, t, ⟨d, rfl, _⟩, _⟩ := h
    exact t.length
  · obtain ⟨G, xs, r, e, t, ⟨d, rfl, hd, rfl⟩, k⟩ := h
    have E := env_start (K := K) (N := N_law_right) e t
    refine q_asg E (ed_call0 (ea_cons (ed_var rfl) ea_nil) ⟨d, rfl, hd, rfl⟩) fun σ H E => ?_
    refine q_asg E (Ed.is (z := .bl (word d)) (ed_andV (a := lett d) (b := match d with | .str s => decide ((1 : Int) ≤ s.length) && decide ((s.length : Int) ≤ 16) | _ => false) (ed_var rfl) fun h => ?_) ?_) fun σ H E => ?_
    · obtain ⟨s, rfl⟩ := lett_of h
      obtain ⟨_, _, hs⟩ := hd
      exact ed_chain (ed_int _) (ed_cb (ea_cons (ed_var rfl) ea_nil) (pc_lenS (Nat.le_trans (hs s rfl).1 (by decide)))) p2_le (fun _ => ed_int _) (fun _ => p2_le)
    · cases d <;> rfl
    refine q_when E (et_or (et_test (ed_neS (ed_cb (ea_cons (ed_call0 (ea_cons (ed_var rfl) ea_nil) ⟨d, rfl, hd, rfl⟩) ea_nil) pc_reprB) (ed_cb (ea_cons (ed_var rfl) ea_nil) pc_reprB))) fun _ => (et_test (ed_neS (ed_cb (ea_cons (ed_call0 (ea_cons (ed_var rfl) ea_nil) ⟨d, rfl, hd, rfl⟩) ea_nil) pc_reprB) (ed_cb (ea_cons (ed_var rfl) ea_nil) pc_reprB)))) (fun hb H E => ?_) (fun hb H E => ?_)
    · simp at hb
    refine s_ret E (ed_eqS (ed_call0 (ea_cons (ed_var rfl) ea_nil) ⟨d, rfl, hd, rfl⟩) (Ed.is (z := .str (if word d = true then "" else "word")) (ed_ite (et_B (ed_var rfl)) (fun _ => (ed_str _)) (fun _ => (ed_str _))) (by split <;> rfl))) fun v G' H' g t => k v G' H' g ?_
    rw [decide_eq_true rfl] at t
    exact t
def somes (t : Str) : List D := [.non, .int 5, .bl true, .bl false, .lst [.str t], .tup [.str t], .dk [], .int 0, .int ((10 : Int) ^ (20 : Int).toNat), .lst [.str "a"], .tup [.str "a", .str "b"], .lst [], .tup [], .int (-(1 : Int))]
theorem somes_thing (t : Str) : ∀ x ∈ somes t, Thing x := by
  intro x hx
  simp only [somes, List.mem_cons, List.not_mem_nil, or_false] at hx
  rcases hx with rfl | rfl | rfl | rfl | rfl | rfl | rfl | rfl | rfl | rfl | rfl | rfl | rfl | rfl <;> exact ⟨_, rfl, fun s z => nomatch z⟩
def spLaw (K : PySem.W.Frag) : Sp := fun vs H Q _ => ∃ (a : Addr) (ns : List Int), vs = [.ref a] ∧ SqL K H a (ns.map V.int) ∧ ns.length ≤ 63 ∧ ∀ H', Q (.bl true) H'
theorem numb_lt (ns : List Int) (k : Int) : 0 ≤ numb ns k := (mixed_lt _ _).1
theorem ok_law (T : Txt K mg) (c_law_number : Cal P w K mg base CX0 2 "_law_number" P_law_number (SpD (R_number K))) (c_law_text : Cal P w K mg base CX0 2 "_law_text" P_law_text (SpD R_text)) (c_law_right : Cal P w K mg base CX0 5 "_law_right" P_law_right (SpD R_right))
    (F : FnP K "law" s_law f fd) : FnOk P w K mg base CX0 6 f fd P_law (spLaw K) := by
  refine F.ok sc_law (fun vs H Q E h => ?_) (fun cdv A outer s H vs Q E hr h => ⟨_, PSs.nox (pss_cons (ps_for PassesOwn.never rfl (pi_range1 (by rfl) T.fr_range (pa_cons (pe_op op_add pe_int (pe_callB (call_min2 rfl) (by rfl) T.fr_min (by decide +kernel) (pa_cons pe_int (pa_cons (pe_callB call_len (by rfl) T.fr_len (by decide +kernel) (pa_cons (pv 0) pa_nil)) pa_nil)))) pa_nil)) (pg_name (i := 1) sc_law.nd rfl (Or.inl rfl))
      (pss_cons (ps_set (i := 2) sc_law.nd rfl (Or.inl rfl) (pe_callC c_law_number (hr.mono (by decide)) (pa_cons (pv 0) (pa_cons (pv 1) pa_nil))))
      (pss_cons (ps_set (i := 3) sc_law.nd rfl (Or.inl rfl) (pe_callC c_law_text (hr.mono (by decide)) (pa_cons (pv 2) (pa_cons (pe_op op_add pe_int (pv 1)) pa_nil))))
      (pss_cons (ps_set (i := 4) sc_law.nd rfl (Or.inl rfl) (pe_lst (pa_cons pe_non (pa_cons pe_int (pa_cons pe_bl (pa_cons pe_bl (pa_cons (pe_lst (pa_cons (pv 3) pa_nil)) (pa_cons (pe_tup (pa_cons (pv 3) pa_nil)) (pa_cons pe_dnewK (pa_cons pe_int (pa_cons (pe_op op_pow pe_int pe_int) (pa_cons (pe_lst (pa_cons pe_str pa_nil)) (pa_cons (pe_tup (pa_cons pe_str (pa_cons pe_str pa_nil))) (pa_cons (pe_lst pa_nil) (pa_cons (pe_tup pa_nil) (pa_cons (pe_un un_neg pe_int) pa_nil))))))))))))))))
      (pss_one (ps_if (PW.pt (pw_or (pt_not (pt_val (pe_callC c_law_right (hr.mono (by decide)) (pa_cons (pv 3) pa_nil)))) (pw_or (pt_not (pt_val (pe_callC c_law_right (hr.mono (by decide)) (pa_cons (pe_ix ix_list (pv 4) (pe_op op_mod (pe_op op_fdiv (pv 2) pe_int) pe_int) (fun _ _ => rfl)) pa_nil)))) (pw_or1 (pt_not (pt_val (pe_callC c_law_right (hr.mono (by decide)) (pa_cons (pv 3) pa_nil)))))))) (pss_one (ps_ret pe_bl)) pss_nil))))))
      (pss_one (ps_ret pe_bl))), ?_⟩)
  · obtain ⟨a, ns, rfl, _⟩ := h
    rfl
  · obtain ⟨a, ns, rfl, hS, hlen, k⟩ := h
    have E := env_law (K := K) (N := N_law) hS
    refine q_forM (ys := List.range (1 + (if (ns.length : Int) < 63 then (ns.length : Int) else 63)).toNat) (src := fun (i : Nat) => D.int (0 + (i : Int))) E (ei_rng1 (ea_cons (ed_opI0 (ed_int _) (ed_cb (ea_cons (ed_int _) (ea_cons (ed_cb (ea_cons (ed_var rfl) ea_nil) pc_lenScr) ea_nil)) pc_min2)) ea_nil) (by split <;> omega) (by split <;> omega)) (fun _ ds' => ds' = [.dat (.scr K ns), .un, .un, .un, .un]) rfl ?_ ?_
    · rintro pre i post ds' hy rfl
      have hi : i ≤ 64 := by
        have m : i ∈ List.range (1 + (if (ns.length : Int) < 63 then (ns.length : Int) else 63)).toNat := by rw [hy]; simp
        have := List.mem_range.mp m
        split at this <;> omega
      refine ⟨_, _, eg_name, fun A' σ H N eA E kN => ?_⟩
      refine q_asg E (ed_call0 (ea_cons (ed_var rfl) (ea_cons (ed_var rfl) ea_nil)) ⟨_, _, rfl, by omega, by omega, rfl⟩) fun σ H E => ?_
      refine q_asg E (ed_call0 (ea_cons (ed_var rfl) (ea_cons (ed_opI0 (ed_int _) (ed_var rfl)) ea_nil)) ⟨_, _, rfl, numb_lt _ _, by omega, by omega, rfl⟩) fun σ H E => ?_
      have ht : Thing (.str (text (numb ns (0 + (i : Int))) (100 + (0 + (i : Int))))) := ⟨_, rfl, fun s z => by cases z; exact text_ok _ _⟩
      refine q_asg E (Ed.is (z := .lst (somes (text (numb ns (0 + (i : Int))) (100 + (0 + (i : Int)))))) (EdL.ed (el_lst (ea_cons ed_non (ea_cons (ed_int _) (ea_cons (ed_bl _) (ea_cons (ed_bl _) (ea_cons (EdL.ed (el_lst (ea_cons (ed_var rfl) ea_nil) (by first | decide | simp))) (ea_cons (ed_tup (ea_cons (ed_var rfl) ea_nil) (by first | decide | simp)) (ea_cons ed_dnew (ea_cons (ed_int _) (ea_cons (ed_opI (ed_int _) (ed_int _) (by first | omega | decide | assumption | (unfold CMul; omega) | (unfold CDiv; omega) | (unfold CPow; decide))) (ea_cons (EdL.ed (el_lst (ea_cons (ed_str _) ea_nil) (by first | decide | simp))) (ea_cons (ed_tup (ea_cons (ed_str _) (ea_cons (ed_str _) ea_nil)) (by first | decide | simp)) (ea_cons (EdL.ed (el_lst ea_nil (by first | decide | simp))) (ea_cons (ed_tup ea_nil (by first | decide | simp)) (ea_cons (ed_un (ed_int _)) ea_nil)))))))))))))) (by first | decide | simp))) rfl) fun σ H E => ?_
      have n0 := numb_lt ns (0 + (i : Int))
      have hx := atI_nat (xs := somes (text (numb ns (0 + (i : Int))) (100 + (0 + (i : Int))))) (i := numb ns (0 + (i : Int)) / 7 % 14) .non (by omega) (by show _ < (14 : Int); omega)
      have hm := somes_thing _ _ (getD_mem (l := somes (text (numb ns (0 + (i : Int))) (100 + (0 + (i : Int))))) (i := (numb ns (0 + (i : Int)) / 7 % 14).toNat) (d := .non) (by show _ < 14; omega))
      refine s_when E (et_or (et_not (et_B (ed_call0 (ea_cons (ed_var rfl) ea_nil) ⟨_, rfl, ht, rfl⟩))) fun _ => (et_or (et_not (et_B (ed_call0 (ea_cons (ed_ixL (Ed.s (ed_var rfl)) (ed_opI (ed_opI (ed_var rfl) (ed_int _) (by walk_at "sd")) (ed_int _) (by walk_at "sd")) hx) ea_nil) ⟨_, rfl, hm, rfl⟩))) fun _ => (et_not (et_B (ed_call0 (ea_cons (ed_var rfl) ea_nil) ⟨_, rfl, ht, rfl⟩))))) (fun hb H E => ?_) (fun hb H E => ?_)
      · cases hb
      · exact kN _ _ _ rfl ((((E.un 1).un 2).un 3).un 4)
    · rintro ds' σ H rfl E
      refine s_ret E (ed_bl _) fun v G' H' g t => ?_
      cases t
      exact k H'
end
/-! ### the head -/
def faL : List He.Fa := [.free "ValueError", .free "all", .free "int", .free "isinstance", .free "len", .free "min", .free "range", .free "repr", .free "str", .str "LETTERS" "abcdefghijklmnopqrstuvwxyz", .int "MOST_LETTERS" 16, .glo "BadPattern", .glo "BadPrice", .glo "BadRule", .glo "BadText", .glo "BadWord", .glo "InUse", .glo "MendError", .glo "NoClass", .glo "NoNumber", .glo "NoPlace", .glo "NoStem", .glo "NoWord", .glo "TooMany", .glo "Twice", .glo "_law_is_letters", .glo "_law_kind", .glo "_law_mixed", .glo "_law_number", .glo "_law_refused", .glo "_law_right", .glo "_law_text", .glo "are_letters", .glo "is_word", .glo "need_word", .exc "BadWord", .exm "BadWord" "MendError" true, .glo "law"]
def exL (K : PySem.W.Frag) : List Bool := [decide (PySem.W.findIn K (.ref (He.ga K "BadWord")) "__getattribute__" = some (some (.builtin "BaseException.__getattribute__"))), decide (PySem.W.findIn K (.ref (He.ga K "BadWord")) "__getattr__" = some none), decide (PySem.W.hasDictIn K (He.ga K "BadWord") = true), decide (PySem.W.findIn K (.ref (He.ga K "BadWord")) "__class__" = some (some (.builtin "object.__class__"))), decide (PySem.W.specialIn K (.builtin "object.__class__") "__get__" = some (some (.builtin "getset_descriptor.__get__"))), decide (PySem.W.takesIn K (.builtin "object.__class__") = some true), decide (PySem.W.mroIn K (He.ga K "BadWord") (.type "object") = some true), decide (PySem.W.kitOne K (.ref (He.ga K "BadWord")) (.ref (He.ga K "BadWord")) = some true), decide (PySem.W.kitOne K (.ref (He.ga K "BadWord")) (.ref (He.ga K "BadRule")) = some false), decide (PySem.W.kitOne K (.ref (He.ga K "BadWord")) (.ref (He.ga K "BadText")) = some false), decide (PySem.W.kitOne K (.ref (He.ga K "BadWord")) (.ref (He.ga K "Twice")) = some false), decide (PySem.W.kitOne K (.ref (He.ga K "BadWord")) (.ref (He.ga K "NoStem")) = some false), decide (PySem.W.kitOne K (.ref (He.ga K "BadWord")) (.ref (He.ga K "NoClass")) = some false), decide (PySem.W.kitOne K (.ref (He.ga K "BadWord")) (.ref (He.ga K "InUse")) = some false), decide (PySem.W.kitOne K (.ref (He.ga K "BadWord")) (.ref (He.ga K "TooMany")) = some false), decide (PySem.W.kitOne K (.ref (He.ga K "BadWord")) (.ref (He.ga K "NoNumber")) = some false), decide (PySem.W.kitOne K (.ref (He.ga K "BadWord")) (.ref (He.ga K "NoWord")) = some false), decide (PySem.W.kitOne K (.ref (He.ga K "BadWord")) (.ref (He.ga K "BadPrice")) = some false), decide (PySem.W.kitOne K (.ref (He.ga K "BadWord")) (.ref (He.ga K "NoPlace")) = some false), decide (PySem.W.kitOne K (.ref (He.ga K "BadWord")) (.ref (He.ga K "BadPattern")) = some false), decide (PySem.W.kitOne K (.ref (He.ga K "BadWord")) (.type "ValueError") = some true)]
def exB (K : PySem.W.Frag) : Bool := (exL K).all id
theorem txt_mk {K : PySem.W.Frag} {h : Heap} {mg : Str → Option Value} (X : K.In h) (G : h.Ns mainGlobals mg) (F : ∀ {f : He.Fa}, f ∈ faL → f.ok K = true) (E : exB K = true) : Txt K mg := by
  have EX : ∀ b ∈ exL K, b = true := fun b hb => List.all_eq_true.mp E b hb
  have EXi : ∀ (i : Nat) (p : Prop) [Decidable p], (exL K)[i]? = some (decide p) → p := fun i p _ h => of_decide_eq_true (EX _ (List.mem_of_getElem? h))
  exact {
    fr_ValueError := He.free_ok X G (F (f := .free "ValueError") (by simp [faL])),
    fr_all := He.free_ok X G (F (f := .free "all") (by simp [faL])),
    fr_int := He.free_ok X G (F (f := .free "int") (by simp [faL])),
    fr_isinstance := He.free_ok X G (F (f := .free "isinstance") (by simp [faL])),
    fr_len := He.free_ok X G (F (f := .free "len") (by simp [faL])),
    fr_min := He.free_ok X G (F (f := .free "min") (by simp [faL])),
    fr_range := He.free_ok X G (F (f := .free "range") (by simp [faL])),
    fr_repr := He.free_ok X G (F (f := .free "repr") (by simp [faL])),
    fr_str := He.free_ok X G (F (f := .free "str") (by simp [faL])),
    g_LETTERS := He.str_ok X G (F (f := .str "LETTERS" "abcdefghijklmnopqrstuvwxyz") (by simp [faL])),
    g_MOST_LETTERS := He.int_ok X G (F (f := .int "MOST_LETTERS" 16) (by simp [faL])),
    c_BadPattern := He.glo_ok X G (F (f := .glo "BadPattern") (by simp [faL])),
    c_BadPrice := He.glo_ok X G (F (f := .glo "BadPrice") (by simp [faL])),
    c_BadRule := He.glo_ok X G (F (f := .glo "BadRule") (by simp [faL])),
    c_BadText := He.glo_ok X G (F (f := .glo "BadText") (by simp [faL])),
    c_BadWord := He.glo_ok X G (F (f := .glo "BadWord") (by simp [faL])),
    c_InUse := He.glo_ok X G (F (f := .glo "InUse") (by simp [faL])),
    c_MendError := He.glo_ok X G (F (f := .glo "MendError") (by simp [faL])),
    c_NoClass := He.glo_ok X G (F (f := .glo "NoClass") (by simp [faL])),
    c_NoNumber := He.glo_ok X G (F (f := .glo "NoNumber") (by simp [faL])),
    c_NoPlace := He.glo_ok X G (F (f := .glo "NoPlace") (by simp [faL])),
    c_NoStem := He.glo_ok X G (F (f := .glo "NoStem") (by simp [faL])),
    c_NoWord := He.glo_ok X G (F (f := .glo "NoWord") (by simp [faL])),
    c_TooMany := He.glo_ok X G (F (f := .glo "TooMany") (by simp [faL])),
    c_Twice := He.glo_ok X G (F (f := .glo "Twice") (by simp [faL])),
    c__law_is_letters := He.glo_ok X G (F (f := .glo "_law_is_letters") (by simp [faL])),
    c__law_kind := He.glo_ok X G (F (f := .glo "_law_kind") (by simp [faL])),
    c__law_mixed := He.glo_ok X G (F (f := .glo "_law_mixed") (by simp [faL])),
    c__law_number := He.glo_ok X G (F (f := .glo "_law_number") (by simp [faL])),
    c__law_refused := He.glo_ok X G (F (f := .glo "_law_refused") (by simp [faL])),
    c__law_right := He.glo_ok X G (F (f := .glo "_law_right") (by simp [faL])),
    c__law_text := He.glo_ok X G (F (f := .glo "_law_text") (by simp [faL])),
    c_are_letters := He.glo_ok X G (F (f := .glo "are_letters") (by simp [faL])),
    c_is_word := He.glo_ok X G (F (f := .glo "is_word") (by simp [faL])),
    c_need_word := He.glo_ok X G (F (f := .glo "need_word") (by simp [faL])),
    x_BadWord := (He.exc_ok (F (f := .exc "BadWord") (by simp [faL]))).1,
    k_BadWord := (He.exc_ok (F (f := .exc "BadWord") (by simp [faL]))).2.1,
    b_BadWord := (He.exc_ok (F (f := .exc "BadWord") (by simp [faL]))).2.2.1,
    t_BadWord := (He.exc_ok (F (f := .exc "BadWord") (by simp [faL]))).2.2.2,
    m_BadWord := He.exm_ok (F (f := .exm "BadWord" "MendError" true) (by simp [faL])),
    e1_BadWord := EXi 0 _ rfl,
    e2_BadWord := EXi 1 _ rfl,
    e4_BadWord := EXi 2 _ rfl,
    e5_BadWord := EXi 3 _ rfl,
    e6_BadWord := EXi 4 _ rfl,
    e7_BadWord := EXi 5 _ rfl,
    e8_BadWord := EXi 6 _ rfl,
    is_BadWord_BadWord := EXi 7 _ rfl,
    is_BadWord_BadRule := EXi 8 _ rfl,
    is_BadWord_BadText := EXi 9 _ rfl,
    is_BadWord_Twice := EXi 10 _ rfl,
    is_BadWord_NoStem := EXi 11 _ rfl,
    is_BadWord_NoClass := EXi 12 _ rfl,
    is_BadWord_InUse := EXi 13 _ rfl,
    is_BadWord_TooMany := EXi 14 _ rfl,
    is_BadWord_NoNumber := EXi 15 _ rfl,
    is_BadWord_NoWord := EXi 16 _ rfl,
    is_BadWord_BadPrice := EXi 17 _ rfl,
    is_BadWord_NoPlace := EXi 18 _ rfl,
    is_BadWord_BadPattern := EXi 19 _ rfl,
    is_BadWord_ValueError := EXi 20 _ rfl }

def d_are_letters : He.DefD := ⟨("are_letters", none), "are_letters", "are_letters", defArgs s_are_letters, defBody s_are_letters, defScope s_are_letters, [], []⟩
def d_is_word : He.DefD := ⟨("is_word", none), "is_word", "is_word", defArgs s_is_word, defBody s_is_word, defScope s_is_word, [], []⟩
def d_need_word : He.DefD := ⟨("need_word", none), "need_word", "need_word", defArgs s_need_word, defBody s_need_word, defScope s_need_word, [], []⟩
def d_law_mixed : He.DefD := ⟨("_law_mixed", none), "_law_mixed", "_law_mixed", defArgs s_law_mixed, defBody s_law_mixed, defScope s_law_mixed, [], []⟩
def d_law_number : He.DefD := ⟨("_law_number", none), "_law_number", "_law_number", defArgs s_law_number, defBody s_law_number, defScope s_law_number, [], []⟩
def d_law_kind : He.DefD := ⟨("_law_kind", none), "_law_kind", "_law_kind", defArgs s_law_kind, defBody s_law_kind, defScope s_law_kind, [], []⟩
def d_law_text : He.DefD := ⟨("_law_text", none), "_law_text", "_law_text", defArgs s_law_text, defBody s_law_text, defScope s_law_text, [], []⟩
def d_law_is_letters : He.DefD := ⟨("_law_is_letters", none), "_law_is_letters", "_law_is_letters", defArgs s_law_is_letters, defBody s_law_is_letters, defScope s_law_is_letters, [], []⟩
def d_law_refused : He.DefD := ⟨("_law_refused", none), "_law_refused", "_law_refused", defArgs s_law_refused, defBody s_law_refused, defScope s_law_refused, [], []⟩
def d_law_right : He.DefD := ⟨("_law_right", none), "_law_right", "_law_right", defArgs s_law_right, defBody s_law_right, defScope s_law_right, [], []⟩
def d_law : He.DefD := ⟨("law", none), "law", "law", defArgs s_law, defBody s_law, defScope s_law, [], []⟩
def fnL : List He.DefD := [d_are_letters, d_is_word, d_need_word, d_law_mixed, d_law_number, d_law_kind, d_law_text, d_law_is_letters, d_law_refused, d_law_right, d_law]

abbrev Rw : PySem.W.OpenRow := PySem.W.OpenLaw.row PySem.Challenge.rw_wordmend_k01_words
abbrev hk : PySem.W.Hook := He.hookX 5 faL fnL [] [] exB
def ob (s : PySem.W.SharedT) : He.AlX := He.obsX 5 faL fnL [] [] exB (HandSHeadRun.getT s)
theorem ob_eq (s : PySem.W.SharedT) : ob s = hk.obs s.abs := He.obsX_eq (HandSHeadRun.getT_eq s)
def loose : List Str := ["MendError", "BadWord", "BadRule", "BadText", "Twice", "NoStem", "NoClass", "InUse", "TooMany", "NoNumber", "NoWord", "BadPrice", "NoPlace", "BadPattern", "LETTERS", "MOST_LETTERS", "are_letters", "is_word", "need_word", "_law_mixed", "_law_number", "_law_kind", "_law_text", "_law_is_letters", "_law_refused", "_law_right"]
theorem run (w : World) : HandSHeadRun.RunEq Rw (PySem.W.view Rw.prog [29]) hk ob 4000 loose w := by
  intro os
  kernel_rfl
theorem law_ok {P : Program} {w : World} {K : PySem.W.Frag} {h : Heap} {mg : Str → Option Value} {f : Addr} (X : K.In h) (G : h.Ns mainGlobals mg) (hfa : mg ("law" : Str) = some (.ref f)) (c : He.SaysX faL fnL [] [] exB w h K) :
    ∃ fd : FuncData, (∀ (s : Shared) (v : Value), BindsTo s fd ⟨[v], []⟩ [("_law_script", v)]) ∧ ∀ base : Heap, K.In base → base.Ns mainGlobals mg → FnOk P w K mg base CX0 6 f fd P_law (spLaw K) := by
  have cd := c.t.d
  have T : Txt K mg := txt_mk X G (fun {f} hf => cd.facts hf) c.more
  obtain ⟨fd_are_letters, F_are_letters⟩ := cd.def_ 0 (d := d_are_letters) rfl
  obtain ⟨fd_is_word, F_is_word⟩ := cd.def_ 1 (d := d_is_word) rfl
  obtain ⟨fd_need_word, F_need_word⟩ := cd.def_ 2 (d := d_need_word) rfl
  obtain ⟨fd_law_mixed, F_law_mixed⟩ := cd.def_ 3 (d := d_law_mixed) rfl
  obtain ⟨fd_law_number, F_law_number⟩ := cd.def_ 4 (d := d_law_number) rfl
  obtain ⟨fd_law_kind, F_law_kind⟩ := cd.def_ 5 (d := d_law_kind) rfl
  obtain ⟨fd_law_text, F_law_text⟩ := cd.def_ 6 (d := d_law_text) rfl
  obtain ⟨fd_law_is_letters, F_law_is_letters⟩ := cd.def_ 7 (d := d_law_is_letters) rfl
  obtain ⟨fd_law_refused, F_law_refused⟩ := cd.def_ 8 (d := d_law_refused) rfl
  obtain ⟨fd_law_right, F_law_right⟩ := cd.def_ 9 (d := d_law_right) rfl
  obtain ⟨fd_law, F_law⟩ := cd.def_ 10 (d := d_law) rfl
  have e := hfa.symm.trans (He.glo_ok X G (cd.facts (f := .glo "law") (by simp [faL])))
  cases e
  have b := FunD.bindsA (ps := P_law) F_law fun _ _ _ _ _ _ us hl => match us, hl with | [_], _ => rfl
  refine ⟨fd_law, fun s v => b s [v] rfl, fun base _ _ => ?_⟩
  have C_are_letters : Cal P w K mg base CX0 1 "are_letters" P_are_letters (SpD R_are_letters) := cal_mk T.c_are_letters F_are_letters (ok_are T F_are_letters) (fun _ _ _ _ _ _ us hl => match us, hl with | [_], _ => rfl)
  have C_is_word : Cal P w K mg base CX0 2 "is_word" P_is_word (SpD R_is_word) := cal_mk T.c_is_word F_is_word (ok_isw T C_are_letters F_is_word) (fun _ _ _ _ _ _ us hl => match us, hl with | [_], _ => rfl)
  have C_need_word : Cal P w K mg base (L2.CX P w) 3 "need_word" P_need_word (SpO (R_need_word K)) := cal_mk T.c_need_word F_need_word (ok_need T C_is_word F_need_word) (fun _ _ _ _ _ _ us hl => match us, hl with | [_], _ => rfl)
  have C_law_mixed : Cal P w K mg base CX0 1 "_law_mixed" P_law_mixed (SpD R_mixed) := cal_mk T.c__law_mixed F_law_mixed (ok_mixed F_law_mixed) (fun _ _ _ _ _ _ us hl => match us, hl with | [_, _], _ => rfl)
  have C_law_number : Cal P w K mg base CX0 2 "_law_number" P_law_number (SpD (R_number K)) := cal_mk T.c__law_number F_law_number (ok_number T C_law_mixed F_law_number) (fun _ _ _ _ _ _ us hl => match us, hl with | [_, _], _ => rfl)
  have C_law_text : Cal P w K mg base CX0 2 "_law_text" P_law_text (SpD R_text) := cal_mk T.c__law_text F_law_text (ok_text T C_law_mixed F_law_text) (fun _ _ _ _ _ _ us hl => match us, hl with | [_, _], _ => rfl)
  have C_law_kind : Cal P w K mg base CX0 1 "_law_kind" P_law_kind (SpD (R_kind K)) := cal_mk T.c__law_kind F_law_kind (ok_kind T F_law_kind) (fun _ _ _ _ _ _ us hl => match us, hl with | [_], _ => rfl)
  have C_law_is_letters : Cal P w K mg base CX0 1 "_law_is_letters" P_law_is_letters (SpD R_isl) := cal_mk T.c__law_is_letters F_law_is_letters (ok_isl T F_law_is_letters) (fun _ _ _ _ _ _ us hl => match us, hl with | [_], _ => rfl)
  have C_law_refused : Cal P w K mg base CX0 4 "_law_refused" P_law_refused (SpD R_refused) := cal_mk T.c__law_refused F_law_refused (ok_refused T C_need_word C_law_kind F_law_refused) (fun _ _ _ _ _ _ us hl => match us, hl with | [_], _ => rfl)
  have C_law_right : Cal P w K mg base CX0 5 "_law_right" P_law_right (SpD R_right) := cal_mk T.c__law_right F_law_right (ok_right T C_law_is_letters C_are_letters C_is_word C_law_refused F_law_right) (fun _ _ _ _ _ _ us hl => match us, hl with | [_], _ => rfl)
  exact ok_law T C_law_number C_law_text C_law_right F_law
end K01
open PySem PySem.W PySem.Calls PyProof.Rows
set_option maxRecDepth 100000 in
set_option maxHeartbeats 0 in
theorem PySem.Challenge.cw_wordmend_k01_words_holds : PySem.Challenge.rw_wordmend_k01_words.Holds := by
  w_on; o_law
  refine HandSHeadRun.head_any (r := OpenLaw.row PySem.Challenge.rw_wordmend_k01_words) (q := view (OpenLaw.row PySem.Challenge.rw_wordmend_k01_words).prog [29]) (H := K01.hk) (ob := K01.ob) (M := 4000) (loose := K01.loose) (d := HandSHeadRun.topDef (OpenLaw.row PySem.Challenge.rw_wordmend_k01_words).prog 29) (kwd := []) K01.ob_eq
    (by kernel_rfl) (fun s => by kernel_rfl) K01.run (by kernel_rfl) (by kernel_rfl) (by kernel_rfl) (by rfl) (by first | assumption | decide +kernel) (by decide +kernel) ⟨rfl, rfl, rfl, rfl, rfl, by decide +kernel⟩ ?hw ?hc
  case hw => w_witness2
  case hc =>
    refine L2.walk_ofE (l := PySem.Challenge.rw_wordmend_k01_words) (n := 63) (k := 6) (x := "_law_script") (CX := L2.CX0) rfl (by decide) (by kernel_rfl) ⟨rfl, by decide, by decide⟩ ?F (fun _ _ _ _ z => z)
    intro w mg fa h Y G hmg0
    obtain ⟨K, KX, c⟩ := Y
    have hmg : mg ("law" : PySem.Str) = some (.ref fa) := by
      have e : (HandSHeadRun.topDef (OpenLaw.row PySem.Challenge.rw_wordmend_k01_words).prog 29).name = ("law" : PySem.Str) := by kernel_rfl
      rw [← e]
      exact hmg0
    obtain ⟨fd, hb, hF⟩ := K01.law_ok (P := (PySem.Challenge.rw_wordmend_k01_words).prog) (w := w) KX G hmg c
    exact ⟨K, fd, K01.spLaw K, KX, hb, fun H a ns hl _ hS => ⟨a, ns, rfl, hS, hl, fun _ => rfl⟩, hF⟩
