import PyProof.Rows.All
import Wide.All
import OpenK.AllK
import Wide.FinOn
import HandS.ForMost
import HandS.IsInst
import HandS.DictComp
import HandS.Style
import HandS.Evl
import HandS.Conv
import HandS.Deep
import HandS.Lambda
import HandS.Flow
import HandS.RaiseMore
import HandS.Wide
import PyProof.ListStr
import HandS.Ends
import HandS.Strs
import PyProof.SumAny
import HandS.SetFor
import HandS.SetTxt0
import HandS.More
import HandS.ExcInit
import HandS.NestedK
import KE.KExcSuper
import HandS.ExcField
import HandS.ExcIs
import HandS.EndTab
import PyProof.AutoSeq1
import HandS.WordsExc
import KE.KNest
import HandS.HeadHook3
import PySem.Challenge.RW_paidatmost_k02_statements_and_their_text
set_option Elab.async false
set_option linter.all false
set_option maxRecDepth 100000
set_option maxHeartbeats 4000000
namespace DL
open PySem L2
open Evl (Ex)

/-! ## data -/
inductive D where
  | non | bl (b : Bool) | int (i : Int) | str (s : Str)
  | lst (xs : List D) | tup (xs : List D)
  | dic (kvs : List (Key × D))
  | ins (C : Addr) (fs : List (Str × D))
  | val (v : V)

mutual
def D.py : D → PyData
  | .non => .none
  | .bl b => .bool b
  | .int i => .int i
  | .str s => .str s
  | .lst xs => .list (D.pys xs)
  | .tup xs => .tuple (D.pys xs)
  | .dic _ => .none
  | .ins _ _ => .none
  | .val _ => .none
def D.pys : List D → List PyData
  | [] => []
  | x :: xs => D.py x :: D.pys xs
end
mutual
/-- plain: no dict, no instance, no opaque value -/
def D.pl : D → Bool
  | .non => true
  | .bl _ => true
  | .int _ => true
  | .str _ => true
  | .lst xs => D.pls xs
  | .tup xs => D.pls xs
  | .dic _ => false
  | .ins _ _ => false
  | .val _ => false
def D.pls : List D → Bool
  | [] => true
  | x :: xs => D.pl x && D.pls xs
end
theorem D.pys_map : ∀ xs : List D, D.pys xs = xs.map D.py
  | [] => by simp [D.pys]
  | x :: xs => by simp [D.pys, D.pys_map xs]
theorem D.pls_all : ∀ xs : List D, D.pls xs = xs.all D.pl
  | [] => by simp [D.pls]
  | x :: xs => by simp [D.pls, D.pls_all xs]

mutual
inductive Rp (K : PySem.W.Frag) (F : Hp) : V → D → Prop
  | non : Rp K F .non .non
  | bl (b : Bool) : Rp K F (.bl b) (.bl b)
  | int (i : Int) : Rp K F (.int i) (.int i)
  | str (s : Str) : Rp K F (.str s) (.str s)
  | lst {a : Addr} {xs : List V} {ds : List D} : F a = some (.lst xs) → Rps K F xs ds → Rp K F (.ref a) (.lst ds)
  | tup {a : Addr} {xs : List V} {ds : List D} : SqT K F a xs → Rps K F xs ds → Rp K F (.ref a) (.tup ds)
  | dic {a : Addr} {kvs : List (Key × V)} {kds : List (Key × D)} : F a = some (.dK kvs) → kvs.map (·.1) = kds.map (·.1) → Rps K F (kvs.map (·.2)) (kds.map (·.2)) → Rp K F (.ref a) (.dic kds)
  | ins {a C dx : Addr} {fs : List (Str × V)} {fds : List (Str × D)} : F a = some (.ins C dx fs) → fs.map (·.1) = fds.map (·.1) → Rps K F (fs.map (·.2)) (fds.map (·.2)) → Rp K F (.ref a) (.ins C fds)
  | val (v : V) : Rp K F v (.val v)
inductive Rps (K : PySem.W.Frag) (F : Hp) : List V → List D → Prop
  | nil : Rps K F [] []
  | cons {v : V} {vs : List V} {d : D} {ds : List D} : Rp K F v d → Rps K F vs ds → Rps K F (v :: vs) (d :: ds)
end
section
variable {K : PySem.W.Frag} {F F' : Hp}
mutual
theorem Rp.mono (e : Ex F F') : ∀ {v : V} {d : D}, Rp K F v d → Rp K F' v d
  | _, _, .non => .non
  | _, _, .bl b => .bl b
  | _, _, .int i => .int i
  | _, _, .str s => .str s
  | _, _, .lst h r => .lst (e _ _ h) (Rps.mono e r)
  | _, _, .tup h r => .tup (Evl.ex_t e h) (Rps.mono e r)
  | _, _, .dic h k r => .dic (e _ _ h) k (Rps.mono e r)
  | _, _, .ins h k r => .ins (e _ _ h) k (Rps.mono e r)
  | _, _, .val v => .val v
theorem Rps.mono (e : Ex F F') : ∀ {vs : List V} {ds : List D}, Rps K F vs ds → Rps K F' vs ds
  | _, _, .nil => .nil
  | _, _, .cons h r => .cons (Rp.mono e h) (Rps.mono e r)
end
mutual
theorem Rp.dp : ∀ {v : V} {d : D}, Rp K F v d → d.pl = true → Dp K F v d.py
  | _, _, .non, _ => by simp only [D.py]; exact .non
  | _, _, .bl b, _ => by simp only [D.py]; exact .bl b
  | _, _, .int i, _ => by simp only [D.py]; exact .int i
  | _, _, .str s, _ => by simp only [D.py]; exact .str s
  | _, _, .lst h r, q => by simp only [D.py]; simp only [D.pl] at q; exact .lst (.of h) (Rps.dp r q)
  | _, _, .tup h r, q => by simp only [D.py]; simp only [D.pl] at q; exact .tup h (Rps.dp r q)
  | _, _, .dic _ _ _, q => by simp [D.pl] at q
  | _, _, .ins _ _ _, q => by simp [D.pl] at q
  | _, _, .val _, q => by simp [D.pl] at q
theorem Rps.dp : ∀ {vs : List V} {ds : List D}, Rps K F vs ds → D.pls ds = true → DpAll K F vs (D.pys ds)
  | _, _, .nil, _ => by simp only [D.pys]; exact .nil
  | _, _, .cons h r, q => by
    simp only [D.pls, Bool.and_eq_true] at q
    simp only [D.pys]
    exact .cons (Rp.dp h q.1) (Rps.dp r q.2)
end
theorem Rps.length : ∀ {vs : List V} {ds : List D}, Rps K F vs ds → vs.length = ds.length
  | _, _, .nil => rfl
  | _, _, .cons _ r => by simp [Rps.length r]
theorem Rps.get : ∀ {vs : List V} {ds : List D} {i : Nat} {d : D}, Rps K F vs ds → ds[i]? = some d → ∃ v, vs[i]? = some v ∧ Rp K F v d
  | _, _, _, _, .nil, e => by simp at e
  | _, _, 0, _, .cons h _, e => by simp at e; subst e; exact ⟨_, by simp, h⟩
  | _, _, i + 1, d, .cons _ r, e => by
    obtain ⟨v, h1, h2⟩ := Rps.get (i := i) (d := d) r (by simpa using e)
    exact ⟨v, by simpa using h1, h2⟩
theorem Rps.getV : ∀ {vs : List V} {ds : List D} {i : Nat} {v : V}, Rps K F vs ds → vs[i]? = some v → ∃ d, ds[i]? = some d ∧ Rp K F v d
  | _, _, _, _, .nil, e => by simp at e
  | _, _, 0, _, .cons h _, e => by simp at e; subst e; exact ⟨_, by simp, h⟩
  | _, _, i + 1, d, .cons _ r, e => by
    obtain ⟨v, h1, h2⟩ := Rps.getV (i := i) (v := d) r (by simpa using e)
    exact ⟨v, by simpa using h1, h2⟩
theorem Rps.append : ∀ {vs ws : List V} {ds es : List D}, Rps K F vs ds → Rps K F ws es → Rps K F (vs ++ ws) (ds ++ es)
  | _, _, _, _, .nil, q => q
  | _, _, _, _, .cons h r, q => .cons h (Rps.append r q)
theorem Rps.one {v : V} {d : D} (h : Rp K F v d) : Rps K F [v] [d] := .cons h .nil
theorem Rps.snoc {vs : List V} {v : V} {ds : List D} {d : D} (r : Rps K F vs ds) (h : Rp K F v d) : Rps K F (vs ++ [v]) (ds ++ [d]) := r.append (.one h)
theorem Rps.drop : ∀ {vs : List V} {ds : List D} (n : Nat), Rps K F vs ds → Rps K F (vs.drop n) (ds.drop n)
  | _, _, 0, r => r
  | _, _, _ + 1, .nil => .nil
  | _, _, n + 1, .cons _ r => Rps.drop n r
theorem Rps.take : ∀ {vs : List V} {ds : List D} (n : Nat), Rps K F vs ds → Rps K F (vs.take n) (ds.take n)
  | _, _, 0, _ => .nil
  | _, _, _ + 1, .nil => .nil
  | _, _, n + 1, .cons h r => .cons h (Rps.take n r)
theorem Rps.dropLast : ∀ {vs : List V} {ds : List D}, Rps K F vs ds → Rps K F vs.dropLast ds.dropLast
  | _, _, .nil => .nil
  | _, _, .cons h .nil => .nil
  | _, _, .cons h (.cons h2 r) => by
    show Rps K F (_ :: List.dropLast _) (_ :: List.dropLast _)
    exact .cons h (Rps.dropLast (.cons h2 r))
theorem Rps.eraseIdx : ∀ {vs : List V} {ds : List D} (i : Nat), Rps K F vs ds → Rps K F (vs.eraseIdx i) (ds.eraseIdx i)
  | _, _, _, .nil => .nil
  | _, _, 0, .cons _ r => r
  | _, _, i + 1, .cons h r => .cons h (Rps.eraseIdx i r)
theorem Rps.set {v : V} {d : D} (h : Rp K F v d) : ∀ {vs : List V} {ds : List D} (i : Nat), Rps K F vs ds → Rps K F (vs.set i v) (ds.set i d)
  | _, _, _, .nil => .nil
  | _, _, 0, .cons _ r => .cons h r
  | _, _, i + 1, .cons q r => .cons q (Rps.set h i r)
theorem Rps.reverse : ∀ {vs : List V} {ds : List D}, Rps K F vs ds → Rps K F vs.reverse ds.reverse
  | _, _, .nil => .nil
  | _, _, .cons h r => by
    rw [List.reverse_cons, List.reverse_cons]
    exact (Rps.reverse r).snoc h
theorem Rps.strs : ∀ (ss : List Str), Rps K F (ss.map V.str) (ss.map D.str)
  | [] => .nil
  | s :: ss => .cons (.str s) (Rps.strs ss)
theorem Rps.ints : ∀ (ss : List Int), Rps K F (ss.map V.int) (ss.map D.int)
  | [] => .nil
  | s :: ss => .cons (.int s) (Rps.ints ss)
theorem Rps.bls : ∀ (ss : List Bool), Rps K F (ss.map V.bl) (ss.map D.bl)
  | [] => .nil
  | s :: ss => .cons (.bl s) (Rps.bls ss)
theorem Rps.strs_inv : ∀ {ss : List Str} {vs : List V}, Rps K F vs (ss.map D.str) → vs = ss.map V.str
  | [], _, .nil => rfl
  | s :: ss, _, .cons (.str _) r => by rw [Rps.strs_inv r]; rfl
theorem Rps.ints_inv : ∀ {ss : List Int} {vs : List V}, Rps K F vs (ss.map D.int) → vs = ss.map V.int
  | [], _, .nil => rfl
  | s :: ss, _, .cons (.int _) r => by rw [Rps.ints_inv r]; rfl
theorem Rps.bls_inv : ∀ {ss : List Bool} {vs : List V}, Rps K F vs (ss.map D.bl) → vs = ss.map V.bl
  | [], _, .nil => rfl
  | s :: ss, _, .cons (.bl _) r => by rw [Rps.bls_inv r]; rfl
end
end DL
namespace DL
open PySem L2
open Evl (Ex)

/-! ## worlds: F what never changes any more, H all, T a bound of the pen's turns -/
structure Wd where
  F : Hp
  H : Hp
  T : Nat
def Pen (K : PySem.W.Frag) (F H : Hp) (a : Addr) (T : Nat) : Prop :=
  ∃ (c : Addr) (t r : Int) (cs : List Int), H a = some (.lst [.ref c, .int t, .int r]) ∧ F c = some (.lst (cs.map V.int)) ∧ cs.length ≤ 63 ∧ 0 ≤ t ∧ t ≤ T ∧ 0 ≤ r
/-- the tables of code objects that a law's lambdas may write -/
class LT (K : PySem.W.Frag) where
  tabs : List (Addr × Str)
/-- the tables stand, and there are no others -/
structure TabsX (T : List (Addr × Str)) (H : Hp) : Prop where
  tabs : LamX.Tabs T H
  only : ∀ a ps, H a = some (.tbl ps) → ∃ q, (a, q) ∈ T
structure Ok (K : PySem.W.Frag) [LT K] (p : Option Addr) (S : Wd) : Prop where
  sub : Ex S.F S.H
  pen : ∀ a, p = some a → Pen K S.F S.H a S.T ∧ S.F a = none
  nt : ∀ a ps, S.F a ≠ some (.tbl ps)
  tb : TabsX (LT.tabs K) S.H
theorem tabs_upd {T : List (Addr × Str)} {H : Hp} {a : Addr} {o : HO} (t : TabsX T H) (h : H a = none) (nt : ∀ ps, o ≠ .tbl ps) : TabsX T (upd H a o) := ⟨t.tabs.ext fun b u e => (upd_ne (ne_of_none e h)).trans e, fun b ps e => by
  by_cases hb : b = a
  · subst hb
    rw [upd_same] at e
    exact absurd (Option.some.inj e) (nt ps)
  · rw [upd_ne hb] at e
    exact t.only b ps e⟩
theorem tabs_chg {T : List (Addr × Str)} {H : Hp} {a : Addr} {o o' : HO} (t : TabsX T H) (h : H a = some o') (h1 : ∀ ps, o' ≠ .tbl ps) (h2 : ∀ c q, o' ≠ LamX.CodeO c q) (nt : ∀ ps, o ≠ .tbl ps) : TabsX T (upd H a o) := ⟨fun p hp => by
  obtain ⟨ps, e1, e2, e3⟩ := t.tabs p hp
  have n1 : p.1 ≠ a := fun z => by
    rw [z, h] at e1
    exact h1 ps (Option.some.inj e1)
  refine ⟨ps, (upd_ne n1).trans e1, e2, fun pos cv hc => ?_⟩
  obtain ⟨c, e4, e5⟩ := e3 pos cv hc
  refine ⟨c, e4, (upd_ne fun z => ?_).trans e5⟩
  rw [z, h] at e5
  exact h2 _ _ (Option.some.inj e5), fun b ps e => by
  by_cases hb : b = a
  · subst hb
    rw [upd_same] at e
    exact absurd (Option.some.inj e) (nt ps)
  · rw [upd_ne hb] at e
    exact t.only b ps e⟩
theorem code_ne_lst {xs : List V} (c : Addr) (q : Str) : HO.lst xs ≠ LamX.CodeO c q := fun z => by
  unfold LamX.CodeO at z
  cases z
theorem code_ne_dK {xs : List (Key × V)} (c : Addr) (q : Str) : HO.dK xs ≠ LamX.CodeO c q := fun z => by
  unfold LamX.CodeO at z
  cases z
theorem tabs_lst {T : List (Addr × Str)} {H : Hp} {a : Addr} {o : HO} {xs : List V} (t : TabsX T H) (h : H a = some (.lst xs)) (nt : ∀ ps, o ≠ .tbl ps := by intro ps z; cases z) : TabsX T (upd H a o) := tabs_chg t h (fun ps z => by cases z) code_ne_lst nt
/-- no table of code objects -/
abbrev NoT (o : HO) : Prop := ∀ ps, o ≠ .tbl ps
structure Gr (K : PySem.W.Frag) [LT K] (p : Option Addr) (S S' : Wd) : Prop where
  ff : Ex S.F S'.F
  hh : ∀ a o, S.H a = some o → some a ≠ p → (nt : NoT o := by intro ps z; cases z) → S'.H a = some o
  al : ∀ a, S.H a ≠ none → S'.H a ≠ none
  old : ∀ a, S.H a ≠ none → S'.F a = S.F a
  ok : Ok K p S'
def noT : Option HO → Option HO
  | some (.tbl _) => none
  | o => o
theorem noT_of {o : HO} (h : NoT o) : noT (some o) = some o := by
  cases o <;> first | rfl | exact absurd rfl (h _)
theorem noT_inv {x : Option HO} {o : HO} (h : noT x = some o) : x = some o ∧ NoT o := by
  cases x with
  | none => cases h
  | some u => cases u <;> first | (cases h; exact ⟨rfl, fun ps z => by cases z⟩) | cases h
def hide (p : Option Addr) (H : Hp) : Hp := fun a => if some a = p then none else noT (H a)
section
variable {K : PySem.W.Frag} [LT K] {p : Option Addr} {S S1 S2 S3 : Wd}
theorem hide_of {H : Hp} {a : Addr} {o : HO} (h : some a ≠ p) (e : H a = some o) (nt : NoT o := by intro ps z; cases z) : hide p H a = some o := by
  unfold hide
  rw [if_neg h, e]
  exact noT_of nt
theorem hide_ex {H : Hp} : Ex (hide p H) H := fun a o h => by
  unfold hide at h
  split at h
  · cases h
  · exact (noT_inv h).1
theorem Gr.refl (o : Ok K p S) : Gr K p S S := ⟨fun _ _ h => h, fun _ _ h _ _ => h, fun _ h => h, fun _ _ => rfl, o⟩
theorem Gr.trans (a : Gr K p S S1) (b : Gr K p S1 S2) : Gr K p S S2 :=
  ⟨a.ff.trans b.ff, fun x o h q n => b.hh x o (a.hh x o h q n) q n, fun x h => b.al x (a.al x h), fun x h => (b.old x (a.al x h)).trans (a.old x h), b.ok⟩
theorem Gr.hid (g : Gr K p S S1) : Ex (hide p S.H) (hide p S1.H) := fun a o h => by
  unfold hide at h ⊢
  split at h
  · cases h
  · rename_i q
    rw [if_neg q]
    obtain ⟨h1, h2⟩ := noT_inv h
    rw [g.hh a o h1 q h2]
    exact noT_of h2
theorem Ok.subh (o : Ok K p S) : Ex S.F (hide p S.H) := fun a x h => by
  have q : some a ≠ p := fun z => by
    have e := (o.pen a z.symm).2
    rw [h] at e
    cases e
  exact hide_of q (o.sub a x h) fun ps z => o.nt a ps (by rw [h, z])
/-- a new object becomes part of what is fixed -/
theorem Gr.new {q : Addr} {o : HO} (ok : Ok K p S) (h : S.H q = none) (nt : NoT o := by intro ps z; cases z) : Gr K p S ⟨upd S.F q o, upd S.H q o, S.T⟩ := by
  have hF : S.F q = none := by
    cases e : S.F q with
    | none => rfl
    | some x => rw [ok.sub q x e] at h; cases h
  refine ⟨Ex.new hF, fun a x e _ _ => ?_, fun a e => ?_, fun a e => ?_, ⟨fun a x e => ?_, fun a e => ?_, fun a ps e => ?_, tabs_upd ok.tb h nt⟩⟩ <;> dsimp only at *
  · rw [upd_ne (ne_of_none e h)]; exact e
  · intro z
    by_cases ha : a = q
    · subst ha; exact e h
    · rw [upd_ne ha] at z; exact e z
  · by_cases ha : a = q
    · subst ha; exact absurd h e
    · exact upd_ne ha
  · by_cases ha : a = q
    · subst ha
      rw [upd_same] at e ⊢
      exact e
    · rw [upd_ne ha] at e ⊢
      exact ok.sub a x e
  · obtain ⟨⟨c, t, r, cs, h1, h2, h3⟩, h4⟩ := ok.pen a e
    have ha : a ≠ q := ne_of_none h1 h
    refine ⟨⟨c, t, r, cs, ?_, ?_, h3⟩, ?_⟩
    · show upd S.H q o a = _
      rw [upd_ne ha]; exact h1
    · exact Ex.new hF _ _ h2
    · show upd S.F q o a = none
      rw [upd_ne ha]; exact h4
  · by_cases ha : a = q
    · subst ha; rw [upd_same] at e; exact nt ps (Option.some.inj e)
    · rw [upd_ne ha] at e; exact ok.nt a ps e
/-- a new object that may still change -/
theorem Gr.newO {q : Addr} {o : HO} (ok : Ok K p S) (h : S.H q = none) (nt : NoT o := by intro ps z; cases z) : Gr K p S ⟨S.F, upd S.H q o, S.T⟩ := by
  refine ⟨fun _ _ h => h, fun a x e _ _ => ?_, fun a e => ?_, fun a e => rfl, ⟨fun a x e => ?_, fun a e => ?_, ok.nt, tabs_upd ok.tb h nt⟩⟩ <;> dsimp only at *
  · rw [upd_ne (ne_of_none e h)]; exact e
  · intro z
    by_cases ha : a = q
    · subst ha; exact e h
    · rw [upd_ne ha] at z; exact e z
  · have e2 := ok.sub a x e
    rw [upd_ne (ne_of_none e2 h)]
    exact e2
  · obtain ⟨⟨c, t, r, cs, h1, h2, h3⟩, h4⟩ := ok.pen a e
    refine ⟨⟨c, t, r, cs, ?_, h2, h3⟩, h4⟩
    show upd S.H q o a = _
    rw [upd_ne (ne_of_none h1 h)]; exact h1
theorem Gr.fresh (g : Gr K p S S1) {a : Addr} (h : S1.H a = none) : S.H a = none := by
  cases e : S.H a with
  | none => rfl
  | some x => exact absurd h (g.al a (by rw [e]; simp))
theorem Ok.freshF (o : Ok K p S) {a : Addr} (h : S.H a = none) : S.F a = none := by
  cases e : S.F a with
  | none => rfl
  | some x => rw [o.sub a x e] at h; cases h
/-- a growth without a pen is one with a pen -/
theorem Gr.up {S' : Wd} (g : Gr K none S S') (o : Ok K p S) (hT : S'.T = S.T) : Gr K p S S' := by
  refine ⟨g.ff, fun a x h _ n => g.hh a x h (by intro z; cases z) n, g.al, g.old, ⟨g.ok.sub, fun a e => ?_, g.ok.nt, g.ok.tb⟩⟩
  obtain ⟨⟨c, t, r, cs, h1, h2, h3⟩, h4⟩ := o.pen a e
  refine ⟨⟨c, t, r, cs, g.hh _ _ h1 (by intro z; cases z), g.ff _ _ h2, by rw [hT]; exact h3⟩, ?_⟩
  rw [g.old a (by rw [h1]; simp)]
  exact h4

/-! ## what evaluates to what -/
/-- some lasting data of which P holds, at most n draws -/
def EvN (K : PySem.W.Frag) [LT K] (p : Option Addr) (te : TE) (σ : L2.St) (S : Wd) (n : Nat) (P : D → Prop) : Prop := ∀ S1, Gr K p S S1 → S1.T + n ≤ 1000000000 → ∀ Q : VK, (∀ v d S2, Gr K p S1 S2 → S2.T ≤ S1.T + n → Rp K S2.F v d → P d → Q v S2.H) → te σ S1.H Q
/-- this lasting data, no draw -/
def EvD (K : PySem.W.Frag) [LT K] (p : Option Addr) (te : TE) (σ : L2.St) (S : Wd) (d : D) : Prop := ∀ S1, Gr K p S S1 → ∀ Q : VK, (∀ v S2, Gr K p S1 S2 → S2.T ≤ S1.T → Rp K S2.F v d → Q v S2.H) → te σ S1.H Q
/-- data as it can be read now -/
def EvH (K : PySem.W.Frag) [LT K] (p : Option Addr) (te : TE) (σ : L2.St) (S : Wd) (d : D) : Prop := ∀ S1, Gr K p S S1 → ∀ Q : VK, (∀ v S2, Gr K p S1 S2 → S2.T ≤ S1.T → Rp K (hide p S2.H) v d → Q v S2.H) → te σ S1.H Q
/-- this very value -/
def EvV (K : PySem.W.Frag) [LT K] (p : Option Addr) (te : TE) (σ : L2.St) (S : Wd) (v : V) : Prop := ∀ S1, Gr K p S S1 → ∀ Q : VK, (∀ S2, Gr K p S1 S2 → S2.T ≤ S1.T → Q v S2.H) → te σ S1.H Q
def EvT (K : PySem.W.Frag) [LT K] (p : Option Addr) (tt : TT) (σ : L2.St) (S : Wd) (b : Bool) : Prop := ∀ S1, Gr K p S S1 → ∀ Q : Bool → Hp → Prop, (∀ S2, Gr K p S1 S2 → S2.T ≤ S1.T → Q b S2.H) → tt σ S1.H Q
def EvA (K : PySem.W.Frag) [LT K] (p : Option Addr) (ta : TA) (σ : L2.St) (S : Wd) (ds : List D) : Prop := ∀ S1, Gr K p S S1 → ∀ Q : List V → Hp → Prop, (∀ vs S2, Gr K p S1 S2 → S2.T ≤ S1.T → Rps K S2.F vs ds → Q vs S2.H) → ta σ S1.H Q
/-- arguments that are read now -/
def EvAH (K : PySem.W.Frag) [LT K] (p : Option Addr) (ta : TA) (σ : L2.St) (S : Wd) (ds : List D) : Prop := ∀ S1, Gr K p S S1 → ∀ Q : List V → Hp → Prop, (∀ vs S2, Gr K p S1 S2 → S2.T ≤ S1.T → Rps K (hide p S2.H) vs ds → Q vs S2.H) → ta σ S1.H Q
section
variable {σ : L2.St} {te ta tb tc : TE} {d d1 d2 : D} {v : V} {n : Nat} {P : D → Prop}
theorem EvN.mono (g : Gr K p S S1) (h : EvN K p te σ S n P) : EvN K p te σ S1 n P := fun S2 g2 => h S2 (g.trans g2)
theorem EvD.mono (g : Gr K p S S1) (h : EvD K p te σ S d) : EvD K p te σ S1 d := fun S2 g2 => h S2 (g.trans g2)
theorem EvH.mono (g : Gr K p S S1) (h : EvH K p te σ S d) : EvH K p te σ S1 d := fun S2 g2 => h S2 (g.trans g2)
theorem EvT.mono {tt : TT} {b : Bool} (g : Gr K p S S1) (h : EvT K p tt σ S b) : EvT K p tt σ S1 b := fun S2 g2 => h S2 (g.trans g2)
theorem EvD.toN (h : EvD K p te σ S d) : EvN K p te σ S 0 (fun e => e = d) := fun S1 g _ Q q => h S1 g Q fun v S2 g2 t r => q v d S2 g2 t r rfl
theorem EvN.le {m : Nat} {P' : D → Prop} (h : EvN K p te σ S n P) (hn : n ≤ m) (hP : ∀ d, P d → P' d) : EvN K p te σ S m P' := fun S1 g b Q q => h S1 g (by omega) Q fun v d S2 g2 t r k => q v d S2 g2 (by omega) r (hP d k)
theorem EvD.h (h : EvD K p te σ S d) : EvH K p te σ S d := fun S1 g Q q => h S1 g Q fun v S2 g2 t r => q v S2 g2 t (r.mono g2.ok.subh)
theorem EvD.is (h : EvD K p te σ S d1) (e : d1 = d2) : EvD K p te σ S d2 := e ▸ h
theorem EvH.is (h : EvH K p te σ S d1) (e : d1 = d2) : EvH K p te σ S d2 := e ▸ h
theorem EvT.is {tt : TT} {a b : Bool} (h : EvT K p tt σ S a) (e : a = b) : EvT K p tt σ S b := e ▸ h
end
end
end DL
namespace DL
open PySem L2
open Evl (Ex)
variable {K : PySem.W.Frag} [LT K] {p : Option Addr} {S S0 S1 S2 S3 : Wd} {σ : L2.St} {te ta tb tc to : TE} {d d1 d2 d3 : D} {ds es : List D} {v : V} {n m : Nat} {P P1 P2 : D → Prop}

/-- a new list that may still change; its items last -/
def EvO (K : PySem.W.Frag) [LT K] (p : Option Addr) (te : TE) (σ : L2.St) (S : Wd) (ds : List D) : Prop := ∀ S1, Gr K p S S1 → ∀ Q : VK, (∀ a vs S2, Gr K p S1 S2 → S2.T ≤ S1.T → S1.H a = none → S2.H a = some (.lst vs) → S2.F a = none → Rps K S2.F vs ds → Q (.ref a) S2.H) → te σ S1.H Q
/-- a list (b) or tuple as it stands, its items last -/
def EvQ (K : PySem.W.Frag) [LT K] (p : Option Addr) (te : TE) (σ : L2.St) (S : Wd) (b : Bool) (ds : List D) : Prop := ∀ S1, Gr K p S S1 → ∀ Q : VK, (∀ a vs S2, Gr K p S1 S2 → S2.T ≤ S1.T → (if b = true then S2.H a = some (.lst vs) ∧ some a ≠ p else SqT K S2.F a vs) → Rps K S2.F vs ds → Q (.ref a) S2.H) → te σ S1.H Q
/-- a new list of draws: P of its items -/
def EvON (K : PySem.W.Frag) [LT K] (p : Option Addr) (te : TE) (σ : L2.St) (S : Wd) (n : Nat) (P : List D → Prop) : Prop := ∀ S1, Gr K p S S1 → S1.T + n ≤ 1000000000 → ∀ Q : VK, (∀ a vs ds S2, Gr K p S1 S2 → S2.T ≤ S1.T + n → S1.H a = none → S2.H a = some (.lst vs) → S2.F a = none → Rps K S2.F vs ds → P ds → Q (.ref a) S2.H) → te σ S1.H Q

theorem ok_ne {a : Addr} (o : Ok K p S) (h : S.H a = none) : some a ≠ p := fun z => by
  obtain ⟨⟨c, t, r, cs, h1, _⟩, _⟩ := o.pen a z.symm
  rw [h] at h1
  cases h1
/-- a list of ours is fixed -/
theorem Gr.fix {a : Addr} {x : HO} (g : Gr K p S S1) (h0 : S.H a = none) (h : S1.H a = some x) (hF : S1.F a = none) (hp : some a ≠ p) (nt : NoT x := by intro ps z; cases z) : Gr K p S ⟨upd S1.F a x, S1.H, S1.T⟩ := by
  refine ⟨g.ff.trans (Ex.new hF), fun b o q np n => g.hh b o q np n, g.al, fun b e => ?_, ⟨fun b y e => ?_, fun b e => ?_, fun b ps e => ?_, g.ok.tb⟩⟩ <;> dsimp only at *
  · have hb : b ≠ a := fun z => by subst z; exact e h0
    rw [upd_ne hb]
    exact g.old b e
  · by_cases hb : b = a
    · subst hb; rw [upd_same] at e; rw [← e]; exact h
    · rw [upd_ne hb] at e; exact g.ok.sub b y e
  · obtain ⟨h1, h2⟩ := g.ok.pen b e
    have hb : b ≠ a := fun z => by subst z; exact hp e.symm
    obtain ⟨c, t, r, cs, q1, q2, q3⟩ := h1
    exact ⟨⟨c, t, r, cs, q1, Ex.new hF _ _ q2, q3⟩, by rw [upd_ne hb]; exact h2⟩
  · by_cases hb : b = a
    · subst hb; rw [upd_same] at e; exact nt ps (Option.some.inj e)
    · rw [upd_ne hb] at e; exact g.ok.nt b ps e
theorem EvO.ed (h : EvO K p te σ S ds) : EvD K p te σ S (.lst ds) := fun S1 g Q q => h S1 g Q fun a vs S2 g2 t h0 h1 h2 r =>
  q (.ref a) ⟨upd S2.F a (.lst vs), S2.H, S2.T⟩ (g2.fix h0 h1 h2 (ok_ne g.ok h0)) t (.lst upd_same (r.mono (Ex.new h2)))
theorem EvO.q (h : EvO K p te σ S ds) : EvQ K p te σ S true ds := fun S1 g Q q => h S1 g Q fun a vs S2 g2 t h0 h1 h2 r => q a vs S2 g2 t (by rw [if_pos rfl]; exact ⟨h1, ok_ne g.ok h0⟩) r
theorem EvO.mono (g : Gr K p S S1) (h : EvO K p te σ S ds) : EvO K p te σ S1 ds := fun S2 g2 => h S2 (g.trans g2)
theorem EvQ.mono {b : Bool} (g : Gr K p S S1) (h : EvQ K p te σ S b ds) : EvQ K p te σ S1 b ds := fun S2 g2 => h S2 (g.trans g2)
theorem EvA.mono {ta : TA} (g : Gr K p S S1) (h : EvA K p ta σ S ds) : EvA K p ta σ S1 ds := fun S2 g2 => h S2 (g.trans g2)
theorem EvD.ql (h : EvD K p te σ S (.lst ds)) : EvQ K p te σ S true ds := fun S1 g Q q => h S1 g Q fun v S2 g2 t r => by
  cases r with
  | lst h1 h2 => exact q _ _ S2 g2 t (by rw [if_pos rfl]; refine ⟨g2.ok.sub _ _ h1, fun z => ?_⟩; have := (g2.ok.pen _ z.symm).2; rw [h1] at this; cases this) h2
theorem EvD.qt (h : EvD K p te σ S (.tup ds)) : EvQ K p te σ S false ds := fun S1 g Q q => h S1 g Q fun v S2 g2 t r => by
  cases r with
  | tup h1 h2 => exact q _ _ S2 g2 t (by rw [if_neg Bool.false_ne_true]; exact h1) h2
theorem EvQ.hl (h : EvQ K p te σ S true ds) : EvH K p te σ S (.lst ds) := fun S1 g Q q => h S1 g Q fun a vs S2 g2 t h1 r => by
  rw [if_pos rfl] at h1
  exact q _ S2 g2 t (.lst (hide_of h1.2 h1.1) (r.mono g2.ok.subh))
theorem EvO.h (h : EvO K p te σ S ds) : EvH K p te σ S (.lst ds) := h.q.hl

/-! ### names, constants -/
theorem ed_c (h : ∀ F, Rp K F v d) : EvD K p (tC v) σ S d := fun S1 g Q q => q v S1 (Gr.refl g.ok) (Nat.le_refl _) (h _)
theorem ed_int {i : Int} : EvD K p (tC (.int i)) σ S (.int i) := ed_c fun _ => .int i
theorem ed_bl {i : Bool} : EvD K p (tC (.bl i)) σ S (.bl i) := ed_c fun _ => .bl i
theorem ed_str {i : Str} : EvD K p (tC (.str i)) σ S (.str i) := ed_c fun _ => .str i
theorem ed_non : EvD K p (tC .non) σ S .non := ed_c fun _ => .non
theorem ed_val : EvD K p (tC v) σ S (.val v) := ed_c fun _ => .val v
theorem ed_slot {i : Nat} (h : σ[i]? = some (some v)) (r : Rp K S.F v d) : EvD K p (tVar i) σ S d := fun S1 g Q q => ⟨v, h, q v S1 (Gr.refl g.ok) (Nat.le_refl _) (r.mono g.ff)⟩
theorem ev_slot {i : Nat} (h : σ[i]? = some (some v)) : EvV K p (tVar i) σ S v := fun S1 g Q q => ⟨v, h, q S1 (Gr.refl g.ok) (Nat.le_refl _)⟩

/-! ### operators -/
def RD (K : PySem.W.Frag) [LT K] (p : Option Addr) (r : R2) (d1 d2 : D) (d : D) : Prop := ∀ (S1 : Wd) (x y : V), Ok K p S1 → Rp K (hide p S1.H) x d1 → Rp K (hide p S1.H) y d2 → ∀ Q : VK, (∀ v S2, Gr K p S1 S2 → S2.T ≤ S1.T → Rp K S2.F v d → Q v S2.H) → r x y S1.H Q
theorem ed_op {r : R2} (ha : EvH K p ta σ S d1) (hb : EvH K p tb σ S d2) (hr : RD K p r d1 d2 d) : EvD K p (tOp r ta tb) σ S d := fun S1 g Q q =>
  ha S1 g _ fun x S2 g2 t2 rx => hb S2 (g.trans g2) _ fun y S3 g3 t3 ry => hr S3 x y g3.ok (rx.mono g3.hid) ry Q fun v S4 g4 t4 r4 => q v S4 ((g2.trans g3).trans g4) (by omega) r4
/-- a scalar answer -/
theorem rd_of {r : R2} {w : V} (hd : ∀ F, Rp K F w d) (h : ∀ (S1 : Wd) (x y : V), Ok K p S1 → Rp K (hide p S1.H) x d1 → Rp K (hide p S1.H) y d2 → ∀ Q : VK, Q w S1.H → r x y S1.H Q) : RD K p r d1 d2 d :=
  fun S1 x y o rx ry Q q => h S1 x y o rx ry Q (q w S1 (Gr.refl o) (Nat.le_refl _) (hd _))
theorem rd_I0 {f : Int → Int → Int} {i j : Int} : RD K p (rI0 fun i j => .int (f i j)) (.int i) (.int j) (.int (f i j)) := rd_of (fun _ => .int _) fun S1 x y o rx ry Q q => by
  cases rx; cases ry; exact ⟨i, j, rfl, rfl, q⟩
theorem rd_B0 {f : Int → Int → Bool} {i j : Int} : RD K p (rI0 fun i j => .bl (f i j)) (.int i) (.int j) (.bl (f i j)) := rd_of (fun _ => .bl _) fun S1 x y o rx ry Q q => by
  cases rx; cases ry; exact ⟨i, j, rfl, rfl, q⟩
theorem rd_I {C : Int → Int → Prop} {f : Int → Int → Int} {i j : Int} (hc : C i j) : RD K p (rI C fun i j => .int (f i j)) (.int i) (.int j) (.int (f i j)) := rd_of (fun _ => .int _) fun S1 x y o rx ry Q q => by
  cases rx; cases ry; exact ⟨i, j, rfl, rfl, hc, q⟩
theorem rd_adds {a b : Str} (hz : a.length + b.length ≤ sizeLine) : RD K p (fun x y H Q => ∃ i j, x = .str i ∧ y = .str j ∧ i.length + j.length ≤ sizeLine ∧ Q (.str (i ++ j)) H) (.str a) (.str b) (.str (a ++ b)) := rd_of (fun _ => .str _) fun S1 x y o rx ry Q q => by
  cases rx; cases ry; exact ⟨a, b, rfl, rfl, hz, q⟩
def D.sh (d : D) : Bool := d.pl && SeqAt.shaped d.py
theorem D.sh_pl {d : D} (h : d.sh = true) : d.pl = true := by unfold D.sh at h; exact (Bool.and_eq_true_iff.mp h).1
theorem D.sh_sh {d : D} (h : d.sh = true) : SeqAt.shaped d.py = true := by unfold D.sh at h; exact (Bool.and_eq_true_iff.mp h).2
/-- == of data -/
def eqD (d1 d2 : D) : Bool := PyData.eqv d1.py d2.py
theorem rd_eq (h1 : d1.sh = true) (h2 : d2.sh = true) : RD K p (rEqD K) d1 d2 (.bl (eqD d1 d2)) := rd_of (fun _ => .bl _) fun S1 x y o rx ry Q q =>
  ⟨d1.py, d2.py, (rx.mono hide_ex).dp (D.sh_pl h1), (ry.mono hide_ex).dp (D.sh_pl h2), D.sh_sh h1, D.sh_sh h2, q⟩
theorem rd_ne (h1 : d1.sh = true) (h2 : d2.sh = true) : RD K p (rNeD K) d1 d2 (.bl (!eqD d1 d2)) := rd_of (fun _ => .bl _) fun S1 x y o rx ry Q q =>
  ⟨d1.py, d2.py, (rx.mono hide_ex).dp (D.sh_pl h1), (ry.mono hide_ex).dp (D.sh_pl h2), D.sh_sh h1, D.sh_sh h2, q⟩
/-- == of texts -/
theorem rd_eqs {a b : Str} : RD K p rEq (.str a) (.str b) (.bl (decide (a = b))) := rd_of (fun _ => .bl _) fun S1 x y o rx ry Q q => by
  cases rx; cases ry
  have e : decide (V.str a = V.str b) = decide (a = b) := by
    by_cases h : a = b
    · subst h; simp
    · rw [decide_eq_false h, decide_eq_false (fun z => h (V.str.inj z))]
  exact ⟨rfl, by rw [e]; exact q⟩
/-- a flat thing among flat things -/
def flatD : D → Bool
  | .non => true
  | .bl _ => true
  | .int _ => true
  | .str _ => true
  | _ => false
def inD (d : D) (ds : List D) : Bool := ds.any fun z => eqD z d
theorem flat_rp {F : Hp} : ∀ {d : D} {v : V}, Rp K F v d → flatD d = true → flatV v = true
  | .non, _, .non, _ => rfl
  | .bl _, _, .bl _, _ => rfl
  | .int _, _, .int _, _ => rfl
  | .str _, _, .str _, _ => rfl
theorem flat_eq {F : Hp} {d e : D} {v w : V} (r : Rp K F v d) (q : Rp K F w e) (h : flatD d = true) (h2 : flatD e = true) : eqV v w = eqD d e := by
  unfold eqD
  cases r <;> first | (exact absurd h Bool.false_ne_true) | (cases q <;> first | (exact absurd h2 Bool.false_ne_true) | (simp only [D.py, PyData.eqv, eqV]))
theorem flat_all {F : Hp} : ∀ {ds : List D} {vs : List V}, Rps K F vs ds → ds.all flatD = true → vs.all flatV = true
  | [], _, .nil, _ => rfl
  | d :: ds, _, .cons h r, q => by
    rw [List.all_cons, Bool.and_eq_true] at q ⊢
    exact ⟨flat_rp h q.1, flat_all r q.2⟩
theorem flat_in {F : Hp} {d : D} {v : V} (r : Rp K F v d) (h : flatD d = true) : ∀ {ds : List D} {vs : List V}, Rps K F vs ds → ds.all flatD = true → inV v vs = inD d ds
  | [], _, .nil, _ => rfl
  | e :: ds, _, .cons q t, z => by
    rw [List.all_cons, Bool.and_eq_true] at z
    have ih := flat_in r h t z.2
    unfold inV inD at ih ⊢
    rw [List.any_cons, List.any_cons, ih, flat_eq q r z.1 h]
theorem rd_inT {neg : Bool} (h1 : flatD d1 = true) (h2 : ds.all flatD = true) : RD K p (rIn K neg) d1 (.tup ds) (.bl (if neg then !inD d1 ds else inD d1 ds)) := rd_of (fun _ => .bl _) fun S1 x y o rx ry Q q => by
  cases ry with
  | tup h3 r => exact ⟨_, _, rfl, .inr (Evl.ex_t hide_ex h3), flat_rp rx h1, flat_all r h2, by rw [flat_in rx h1 r h2]; exact q⟩
theorem rd_inL {neg : Bool} (h1 : flatD d1 = true) (h2 : ds.all flatD = true) : RD K p (rIn K neg) d1 (.lst ds) (.bl (if neg then !inD d1 ds else inD d1 ds)) := rd_of (fun _ => .bl _) fun S1 x y o rx ry Q q => by
  cases ry with
  | lst h3 r => exact ⟨_, _, rfl, .inl (.of (hide_ex _ _ h3)), flat_rp rx h1, flat_all r h2, by rw [flat_in rx h1 r h2]; exact q⟩
theorem rd_sign {c : Nat} {z : Str} : RD K p (fun x y H Q => ∃ (c : Nat) (z : Str), x = .str ⟨#[c]⟩ ∧ y = .str z ∧ Q (.bl (decide (c ∈ z.cps.toList))) H) (.str ⟨#[c]⟩) (.str z) (.bl (decide (c ∈ z.cps.toList))) := rd_of (fun _ => .bl _) fun S1 x y o rx ry Q q => by
  cases rx; cases ry; exact ⟨c, z, rfl, rfl, q⟩
theorem rd_nsign {c : Nat} {z : Str} : RD K p (fun x y H Q => ∃ (c : Nat) (z : Str), x = .str ⟨#[c]⟩ ∧ y = .str z ∧ Q (.bl (!decide (c ∈ z.cps.toList))) H) (.str ⟨#[c]⟩) (.str z) (.bl (!decide (c ∈ z.cps.toList))) := rd_of (fun _ => .bl _) fun S1 x y o rx ry Q q => by
  cases rx; cases ry; exact ⟨c, z, rfl, rfl, q⟩
/-- is None -/
def isNon : D → Option Bool
  | .non => some true
  | .val _ => none
  | _ => some false
theorem isNon_rp {F : Hp} {b : Bool} (r : Rp K F v d) (h : isNon d = some b) : decide (v = .non) = b := by
  cases r <;> simp [isNon] at h <;> simp [h]
theorem rd_isNon {b : Bool} (h : isNon d1 = some b) : RD K p (fun x y H Q => y = .non ∧ Q (.bl (decide (x = .non))) H) d1 .non (.bl b) := rd_of (fun _ => .bl _) fun S1 x y o rx ry Q q => by
  cases ry
  exact ⟨rfl, by rw [isNon_rp rx h]; exact q⟩
theorem rd_notNon {b : Bool} (h : isNon d1 = some b) : RD K p (fun x y H Q => y = .non ∧ Q (.bl (!decide (x = .non))) H) d1 .non (.bl (!b)) := rd_of (fun _ => .bl _) fun S1 x y o rx ry Q q => by
  cases ry
  exact ⟨rfl, by rw [isNon_rp rx h]; exact q⟩
theorem rd_isB {a b : Bool} : RD K p rIsB (.bl a) (.bl b) (.bl (decide (a = b))) := rd_of (fun _ => .bl _) fun S1 x y o rx ry Q q => by
  cases rx; cases ry; exact ⟨a, b, rfl, rfl, q⟩
theorem rd_notB {a b : Bool} : RD K p rNotB (.bl a) (.bl b) (.bl (!decide (a = b))) := rd_of (fun _ => .bl _) fun S1 x y o rx ry Q q => by
  cases rx; cases ry; exact ⟨a, b, rfl, rfl, q⟩
/-- lists joined: a new list -/
theorem eo_cat {es : List D} (ha : EvQ K p ta σ S true ds) (hb : EvQ K p tb σ S true es) (hz : ds.length + es.length ≤ sizeLine) : EvO K p (tOp rCat ta tb) σ S (ds ++ es) := fun S1 g Q q =>
  ha S1 g _ fun a xs S2 g2 t2 h2 r2 => hb S2 (g.trans g2) _ fun b ys S3 g3 t3 h3 r3 => by
    rw [if_pos rfl] at h2 h3
    have e1 := r2.length
    have e2 := r3.length
    refine ⟨a, b, xs, ys, rfl, rfl, g3.hh _ _ h2.1 h2.2, h3.1, by omega, fun q' hq' => ?_⟩
    refine q q' (xs ++ ys) ⟨S3.F, upd S3.H q' (.lst (xs ++ ys)), S3.T⟩ ((g2.trans g3).trans (Gr.newO g3.ok hq')) (by show S3.T ≤ _; omega) ((g2.trans g3).fresh hq') upd_same (g3.ok.freshF hq') ((r2.mono g3.ff).append r3)
/-- a list so often -/
theorem rps_rep {F : Hp} {vs : List V} (r : Rps K F vs ds) : ∀ k : Nat, Rps K F (List.replicate k vs).flatten (List.replicate k ds).flatten
  | 0 => .nil
  | k + 1 => by
    rw [List.replicate_succ, List.replicate_succ, List.flatten_cons, List.flatten_cons]
    exact r.append (rps_rep r k)

/-! ### tuples and lists displayed -/
theorem ea_nil : EvA K p tNil σ S [] := fun S1 g Q q => q [] S1 (Gr.refl g.ok) (Nat.le_refl _) .nil
theorem ea_cons {tr : TA} (h : EvD K p te σ S d) (hr : EvA K p tr σ S ds) : EvA K p (tCons te tr) σ S (d :: ds) := fun S1 g Q q =>
  h S1 g _ fun x S2 g2 t2 rx => hr S2 (g.trans g2) _ fun xs S3 g3 t3 rs => q (x :: xs) S3 (g2.trans g3) (by omega) (.cons (rx.mono g3.ff) rs)
theorem eh_nil : EvAH K p tNil σ S [] := fun S1 g Q q => q [] S1 (Gr.refl g.ok) (Nat.le_refl _) .nil
theorem eh_cons {tr : TA} (h : EvH K p te σ S d) (hr : EvAH K p tr σ S ds) : EvAH K p (tCons te tr) σ S (d :: ds) := fun S1 g Q q =>
  h S1 g _ fun x S2 g2 t2 rx => hr S2 (g.trans g2) _ fun xs S3 g3 t3 rs => q (x :: xs) S3 (g2.trans g3) (by omega) (.cons (rx.mono g3.hid) rs)
theorem ed_tup {t : TA} (h : EvA K p t σ S ds) (hz : ds.length ≤ sizeLine := by decide) : EvD K p (tTup t) σ S (.tup ds) := fun S1 g Q q =>
  h S1 g _ fun xs S2 g2 t2 rs => ⟨by rw [rs.length]; exact hz, fun a ha => q (.ref a) ⟨upd S2.F a (.tup xs), upd S2.H a (.tup xs), S2.T⟩ (g2.trans (Gr.new g2.ok ha)) t2 (.tup (.of upd_same) (rs.mono (Ex.new (g2.ok.freshF ha))))⟩
theorem eo_lst {t : TA} (h : EvA K p t σ S ds) (hz : ds.length ≤ sizeLine := by decide) : EvO K p (tLst t) σ S ds := fun S1 g Q q =>
  h S1 g _ fun xs S2 g2 t2 rs => ⟨by rw [rs.length]; exact hz, fun a ha => q a xs ⟨S2.F, upd S2.H a (.lst xs), S2.T⟩ (g2.trans (Gr.newO g2.ok ha)) t2 (g2.fresh ha) upd_same (g2.ok.freshF ha) rs⟩

/-! ### tests -/
theorem et_test {b : Bool} (h : EvD K p te σ S (.bl b)) : EvT K p (tTest te) σ S b := fun S1 g Q q => h S1 g _ fun v S2 g2 t2 r => by cases r; exact ⟨b, rfl, q S2 g2 t2⟩
theorem et_B {b : Bool} (h : EvD K p te σ S (.bl b)) : EvT K p (tB te) σ S b := fun S1 g Q q => h S1 g _ fun v S2 g2 t2 r => by cases r; exact ⟨b, rfl, q S2 g2 t2⟩
theorem et_and {t u : TT} {a b : Bool} (h1 : EvT K p t σ S a) (h2 : a = true → EvT K p u σ S b) : EvT K p (tAnd t u) σ S (a && b) := fun S1 g Q q => h1 S1 g _ fun S2 g2 t2 => by
  cases a with
  | true =>
    show u σ S2.H Q
    exact h2 rfl S2 (g.trans g2) Q fun S3 g3 t3 => q S3 (g2.trans g3) (by omega)
  | false => exact q S2 g2 t2
theorem et_or {t u : TT} {a b : Bool} (h1 : EvT K p t σ S a) (h2 : a = false → EvT K p u σ S b) : EvT K p (tOr t u) σ S (a || b) := fun S1 g Q q => h1 S1 g _ fun S2 g2 t2 => by
  cases a with
  | false =>
    show u σ S2.H Q
    exact h2 rfl S2 (g.trans g2) Q fun S3 g3 t3 => q S3 (g2.trans g3) (by omega)
  | true => exact q S2 g2 t2
theorem et_not {t : TT} {a : Bool} (h1 : EvT K p t σ S a) : EvT K p (tNot t) σ S (!a) := fun S1 g Q q => h1 S1 g _ fun S2 g2 t2 => q S2 g2 t2
theorem et_yes : EvT K p tYes σ S true := fun S1 g Q q => q S1 (Gr.refl g.ok) (Nat.le_refl _)
theorem ed_and {a b : Bool} (h1 : EvD K p ta σ S (.bl a)) (h2 : a = true → EvD K p tb σ S (.bl b)) : EvD K p (tAndV ta tb) σ S (.bl (a && b)) := fun S1 g Q q => h1 S1 g _ fun v S2 g2 t2 r => by
  cases r
  refine ⟨a, rfl, ?_⟩
  cases a with
  | true =>
    rw [if_pos rfl]
    exact h2 rfl S2 (g.trans g2) Q fun v S3 g3 t3 r3 => q v S3 (g2.trans g3) (by omega) r3
  | false =>
    rw [if_neg Bool.false_ne_true]
    exact q _ S2 g2 t2 (.bl _)
theorem ed_or {a b : Bool} (h1 : EvD K p ta σ S (.bl a)) (h2 : a = false → EvD K p tb σ S (.bl b)) : EvD K p (tOrV ta tb) σ S (.bl (a || b)) := fun S1 g Q q => h1 S1 g _ fun v S2 g2 t2 r => by
  cases r
  refine ⟨a, rfl, ?_⟩
  cases a with
  | false =>
    rw [if_neg Bool.false_ne_true]
    exact h2 rfl S2 (g.trans g2) Q fun v S3 g3 t3 r3 => q v S3 (g2.trans g3) (by omega) r3
  | true =>
    rw [if_pos rfl]
    exact q _ S2 g2 t2 (.bl _)
theorem ed_not {a : Bool} (h1 : EvD K p ta σ S (.bl a)) : EvD K p (tNotV ta) σ S (.bl (!a)) := fun S1 g Q q => h1 S1 g _ fun v S2 g2 t2 r => by
  cases r
  exact ⟨a, rfl, q _ S2 g2 t2 (.bl _)⟩
theorem ed_if {t : TT} {b : Bool} (h : EvT K p t σ S b) (h1 : b = true → EvD K p ta σ S d) (h2 : b = false → EvD K p tb σ S d) : EvD K p (tIf t ta tb) σ S d := fun S1 g Q q => h S1 g _ fun S2 g2 t2 => by
  cases b with
  | true =>
    rw [if_pos rfl]
    exact h1 rfl S2 (g.trans g2) Q fun v S3 g3 t3 r3 => q v S3 (g2.trans g3) (by omega) r3
  | false =>
    rw [if_neg Bool.false_ne_true]
    exact h2 rfl S2 (g.trans g2) Q fun v S3 g3 t3 r3 => q v S3 (g2.trans g3) (by omega) r3
theorem ed_if2 {t : TT} {b : Bool} (h : EvT K p t σ S b) (h1 : b = true → EvD K p ta σ S d1) (h2 : b = false → EvD K p tb σ S d2) : EvD K p (tIf t ta tb) σ S (if b = true then d1 else d2) :=
  ed_if h (fun e => by rw [if_pos e]; exact h1 e) fun e => by rw [if_neg (by rw [e]; exact Bool.false_ne_true)]; exact h2 e
theorem eo_if {t : TT} {b : Bool} (h : EvT K p t σ S b) (h1 : b = true → EvO K p ta σ S ds) (h2 : b = false → EvO K p tb σ S ds) : EvO K p (tIf t ta tb) σ S ds := fun S1 g Q q => h S1 g _ fun S2 g2 t2 => by
  cases b with
  | true =>
    rw [if_pos rfl]
    exact h1 rfl S2 (g.trans g2) Q fun a vs S3 g3 t3 n3 => q a vs S3 (g2.trans g3) (by omega) (g2.fresh n3)
  | false =>
    rw [if_neg Bool.false_ne_true]
    exact h2 rfl S2 (g.trans g2) Q fun a vs S3 g3 t3 n3 => q a vs S3 (g2.trans g3) (by omega) (g2.fresh n3)

/-! ### built-ins by values -/
def RC (K : PySem.W.Frag) [LT K] (p : Option Addr) (r : List V → Hp → VK → Prop) (ds : List D) (d : D) : Prop := ∀ (S1 : Wd) (vs : List V), Ok K p S1 → Rps K (hide p S1.H) vs ds → ∀ Q : VK, (∀ v S2, Gr K p S1 S2 → S2.T ≤ S1.T → Rp K S2.F v d → Q v S2.H) → r vs S1.H Q
theorem ed_cb {r : List V → Hp → VK → Prop} {t : TA} (h : EvAH K p t σ S ds) (hr : RC K p r ds d) : EvD K p (tCB r t) σ S d := fun S1 g Q q =>
  h S1 g _ fun vs S2 g2 t2 rs => hr S2 vs g2.ok rs Q fun v S3 g3 t3 r3 => q v S3 (g2.trans g3) (by omega) r3
theorem rc_of {r : List V → Hp → VK → Prop} {w : V} (hd : ∀ F, Rp K F w d) (h : ∀ (S1 : Wd) (vs : List V), Ok K p S1 → Rps K (hide p S1.H) vs ds → ∀ Q : VK, Q w S1.H → r vs S1.H Q) : RC K p r ds d :=
  fun S1 vs o rs Q q => h S1 vs o rs Q (q w S1 (Gr.refl o) (Nat.le_refl _) (hd _))
theorem rc_lenL (hz : ds.length ≤ sizeLine := by decide) : RC K p (fun xs H Q => ∃ x n, xs = [x] ∧ LenV K x H n ∧ Q (.int n) H) [.lst ds] (.int (ds.length : Int)) := rc_of (fun _ => .int _) fun S1 vs o rs Q q => by
  cases rs with
  | cons h r =>
    cases r
    cases h with
    | lst h1 h2 => exact ⟨_, ds.length, rfl, .inl ⟨_, .of (hide_ex _ _ h1), h2.length.symm⟩, q⟩
theorem rc_lenT : RC K p (fun xs H Q => ∃ x n, xs = [x] ∧ LenV K x H n ∧ Q (.int n) H) [.tup ds] (.int (ds.length : Int)) := rc_of (fun _ => .int _) fun S1 vs o rs Q q => by
  cases rs with
  | cons h r =>
    cases r
    cases h with
    | tup h1 h2 => exact ⟨_, ds.length, rfl, .inr ⟨_, Evl.ex_t hide_ex h1, h2.length.symm⟩, q⟩
theorem rc_lenS {s : Str} (hz : s.length ≤ sizeLine) : RC K p (fun xs H Q => ∃ x n, xs = [x] ∧ LenV K x H n ∧ Q (.int n) H) [.str s] (.int (s.length : Int)) := rc_of (fun _ => .int _) fun S1 vs o rs Q q => by
  cases rs with
  | cons h r =>
    cases r
    cases h
    exact ⟨_, s.length, rfl, ⟨hz, rfl⟩, q⟩
theorem rc_abs {i : Int} : RC K p (fun xs H Q => ∃ i, xs = [.int i] ∧ Q (.int (if i < 0 then -i else i)) H) [.int i] (.int (if i < 0 then -i else i)) := rc_of (fun _ => .int _) fun S1 vs o rs Q q => by
  cases rs with
  | cons h r => cases r; cases h; exact ⟨_, rfl, q⟩
theorem rc_intI {i : Int} : RC K p (fun xs H Q => (∃ i, xs = [.int i] ∧ Q (.int i) H) ∨ ∃ k, xs = [.bl k] ∧ Q (.int (if k then 1 else 0)) H) [.int i] (.int i) := rc_of (fun _ => .int _) fun S1 vs o rs Q q => by
  cases rs with
  | cons h r => cases r; cases h; exact .inl ⟨_, rfl, q⟩
theorem rc_intB {b : Bool} : RC K p (fun xs H Q => (∃ i, xs = [.int i] ∧ Q (.int i) H) ∨ ∃ k, xs = [.bl k] ∧ Q (.int (if k then 1 else 0)) H) [.bl b] (.int (if b then 1 else 0)) := rc_of (fun _ => .int _) fun S1 vs o rs Q q => by
  cases rs with
  | cons h r => cases r; cases h; exact .inr ⟨_, rfl, q⟩
theorem rc_all {bs : List Bool} : RC K p (rAll K) [.lst (bs.map D.bl)] (.bl (bs.all id)) := rc_of (fun _ => .bl _) fun S1 vs o rs Q q => by
  cases rs with
  | cons h r =>
    cases r
    cases h with
    | lst h1 h2 =>
      have e := h2.bls_inv
      subst e
      exact ⟨_, bs, rfl, .of (hide_ex _ _ h1), q⟩
theorem rc_any {bs : List Bool} : RC K p (rAny K) [.lst (bs.map D.bl)] (.bl (bs.any id)) := rc_of (fun _ => .bl _) fun S1 vs o rs Q q => by
  cases rs with
  | cons h r =>
    cases r
    cases h with
    | lst h1 h2 =>
      have e := h2.bls_inv
      subst e
      exact ⟨_, bs, rfl, .of (hide_ex _ _ h1), q⟩
/-- list(x), tuple(x) -/
theorem eo_list {b : Bool} (h : EvQ K p te σ S b ds) : EvO K p (tCB (fun xs H Q => ∃ p ys, xs = [.ref p] ∧ (SqL K H p ys ∨ SqT K H p ys) ∧ ∀ l, H l = none → Q (.ref l) (upd H l (.lst ys))) (tCons te tNil)) σ S ds := fun S1 g Q q =>
  h S1 g _ fun a vs S2 g2 t2 h2 r2 => ⟨a, vs, rfl, by
    cases b with
    | true => rw [if_pos rfl] at h2; exact .inl (.of h2.1)
    | false => rw [if_neg Bool.false_ne_true] at h2; exact .inr (Evl.ex_t g2.ok.sub h2), fun l hl =>
    q l vs ⟨S2.F, upd S2.H l (.lst vs), S2.T⟩ (g2.trans (Gr.newO g2.ok hl)) t2 (g2.fresh hl) upd_same (g2.ok.freshF hl) r2⟩
theorem ed_tuple {b : Bool} (h : EvQ K p te σ S b ds) : EvD K p (tCB (fun xs H Q => ∃ p ys, xs = [.ref p] ∧ ((SqL K H p ys ∧ ∀ l, H l = none → Q (.ref l) (upd H l (.tup ys))) ∨ (SqT K H p ys ∧ Q (.ref p) H))) (tCons te tNil)) σ S (.tup ds) := fun S1 g Q q =>
  h S1 g _ fun a vs S2 g2 t2 h2 r2 => by
    refine ⟨a, vs, rfl, ?_⟩
    cases b with
    | true =>
      rw [if_pos rfl] at h2
      exact .inl ⟨.of h2.1, fun l hl => q (.ref l) ⟨upd S2.F l (.tup vs), upd S2.H l (.tup vs), S2.T⟩ (g2.trans (Gr.new g2.ok hl)) t2 (.tup (.of upd_same) (r2.mono (Ex.new (g2.ok.freshF hl))))⟩
    | false =>
      rw [if_neg Bool.false_ne_true] at h2
      exact .inr ⟨Evl.ex_t g2.ok.sub h2, q (.ref a) S2 g2 t2 (.tup h2 r2)⟩
end DL
namespace DL
open PySem L2
open Evl (Ex)

/-! ## the state of a def's body: slots that hold data, or lists and dicts of its own -/
inductive Ty where
  | dat (d : D) | own (ds : List D) | odc (kds : List (Key × D)) | val (v : V)
def Ty.ow : Ty → Bool
  | .own _ => true
  | .odc _ => true
  | _ => false
def Ty.is (K : PySem.W.Frag) [LT K] (H0 : Hp) (S : Wd) (v : V) : Ty → Prop
  | .dat d => Rp K S.F v d
  | .own ds => ∃ a vs, v = .ref a ∧ S.H a = some (.lst vs) ∧ Rps K S.F vs ds ∧ S.F a = none ∧ H0 a = none
  | .odc kds => ∃ a kvs, v = .ref a ∧ S.H a = some (.dK kvs) ∧ kvs.map (·.1) = kds.map (·.1) ∧ Rps K S.F (kvs.map (·.2)) (kds.map (·.2)) ∧ S.F a = none ∧ H0 a = none
  | .val w => v = w
abbrev En := List (Nat × Ty)
def get : En → Nat → Option Ty
  | [], _ => none
  | (j, t) :: r, i => cond (Nat.beq j i) (some t) (get r i)
def del (i : Nat) : En → En
  | [] => []
  | (j, t) :: r => cond (Nat.beq j i) (del i r) ((j, t) :: del i r)
def put (i : Nat) (t : Ty) (l : En) : En := (i, t) :: del i l
def sub : En → En → Prop
  | [], _ => True
  | (i, t) :: r, l => get l i = some t ∧ sub r l
theorem get_mem : ∀ {l : En} {i : Nat} {t : Ty}, get l i = some t → (i, t) ∈ l
  | (j, u) :: r, i, t, h => by
    unfold get at h
    cases e : Nat.beq j i with
    | true =>
      rw [e] at h
      cases h
      have := Nat.eq_of_beq_eq_true e
      subst this
      exact List.mem_cons_self
    | false =>
      rw [e] at h
      exact List.mem_cons_of_mem _ (get_mem h)
theorem del_mem : ∀ {l : En} {i : Nat} {q : Nat × Ty}, q ∈ del i l → q ∈ l ∧ q.1 ≠ i
  | (j, u) :: r, i, q, h => by
    unfold del at h
    cases e : Nat.beq j i with
    | true =>
      rw [e] at h
      obtain ⟨h1, h2⟩ := del_mem h
      exact ⟨List.mem_cons_of_mem _ h1, h2⟩
    | false =>
      rw [e] at h
      rcases List.mem_cons.mp h with h | h
      · subst h
        exact ⟨List.mem_cons_self, fun z => by
          have z' : j = i := z
          subst z'
          rw [Nat.beq_refl] at e
          cases e⟩
      · obtain ⟨h1, h2⟩ := del_mem h
        exact ⟨List.mem_cons_of_mem _ h1, h2⟩
theorem del_sub : ∀ (l : En) (i : Nat), (del i l).Sublist l
  | [], _ => .slnil
  | (j, u) :: r, i => by
    unfold del
    cases e : Nat.beq j i with
    | true => exact .cons _ (del_sub r i)
    | false => exact .cons₂ _ (del_sub r i)

/-- S0: the world at the def's entry; m slots; M draws allowed, n done -/
structure Sta (K : PySem.W.Frag) [LT K] (p : Option Addr) (S0 : Wd) (B : Hp) (m M n : Nat) (σ : L2.St) (S : Wd) (l : En) : Prop where
  ok0 : Ok K p S0
  g : Gr K p S0 S
  bs : Ex B S.F
  len : σ.length = m
  tb : S0.T + M ≤ 1000000000
  tn : S.T ≤ S0.T + n
  has : ∀ q ∈ l, ∃ v, σ[q.1]? = some (some v) ∧ q.2.is K S0.H S v
  sep : ∀ a ∈ l, ∀ b ∈ l, a.1 ≠ b.1 → a.2.ow = true → b.2.ow = true → ∀ v, σ[a.1]? = some (some v) → σ[b.1]? ≠ some (some v)
section
variable {K : PySem.W.Frag} [LT K] {p : Option Addr} {S S0 S1 S2 S3 : Wd} {B : Hp} {σ σ' : L2.St} {te ta tb tc to : TE} {d d1 d2 d3 : D} {ds es : List D} {v : V} {m M n k : Nat} {P P1 P2 : D → Prop} {l l' : En} {i j : Nat} {t : Ty} {D : Ends}
theorem Ty.grow {H0 : Hp} (g0 : Gr K p S0 S) (ok0 : Ok K p S0) (g : Gr K p S S1) : ∀ {t : Ty}, t.is K S0.H S v → t.is K S0.H S1 v
  | .dat d, h => Rp.mono g.ff h
  | .own ds, ⟨a, vs, e, h1, h2, h3, h4⟩ => ⟨a, vs, e, g.hh _ _ h1 (ok_ne ok0 h4), h2.mono g.ff, (g.old a (by rw [h1]; simp)).trans h3, h4⟩
  | .odc kds, ⟨a, kvs, e, h1, h5, h2, h3, h4⟩ => ⟨a, kvs, e, g.hh _ _ h1 (ok_ne ok0 h4), h5, h2.mono g.ff, (g.old a (by rw [h1]; simp)).trans h3, h4⟩
  | .val w, h => h
theorem Sta.grow (h : Sta K p S0 B m M n σ S l) (g : Gr K p S S1) (ht : S1.T ≤ S.T + k) : Sta K p S0 B m M (n + k) σ S1 l :=
  ⟨h.ok0, h.g.trans g, h.bs.trans g.ff, h.len, h.tb, by have := h.tn; omega, fun q hq => let ⟨v, e, r⟩ := h.has q hq; ⟨v, e, Ty.grow (H0 := S0.H) h.g h.ok0 g r⟩, h.sep⟩
theorem Sta.grow0 (h : Sta K p S0 B m M n σ S l) (g : Gr K p S S1) (ht : S1.T ≤ S.T) : Sta K p S0 B m M n σ S1 l := h.grow (k := 0) g ht
theorem Sta.any (h : Sta K p S0 B m M n σ S l) (g : Gr K p S S1) : Sta K p S0 B m M (n + S1.T) σ S1 l := h.grow (k := S1.T) g (by omega)
theorem Sta.ok (h : Sta K p S0 B m M n σ S l) : Ok K p S := h.g.ok
theorem sub_mem : ∀ {l' l : En}, sub l' l → ∀ q ∈ l', get l q.1 = some q.2
  | (j, t) :: r, l, h, q, hq => by
    rcases List.mem_cons.mp hq with rfl | hq
    · exact h.1
    · exact sub_mem h.2 q hq
theorem Sta.weak (h : Sta K p S0 B m M n σ S l) (hs : sub l' l) : Sta K p S0 B m M n σ S l' :=
  ⟨h.ok0, h.g, h.bs, h.len, h.tb, h.tn, fun q hq => h.has q (get_mem (sub_mem hs q hq)), fun a ha b hb => h.sep a (get_mem (sub_mem hs a ha)) b (get_mem (sub_mem hs b hb))⟩
theorem Sta.more (h : Sta K p S0 B m M n σ S l) (hk : n ≤ k) : Sta K p S0 B m M k σ S l := ⟨h.ok0, h.g, h.bs, h.len, h.tb, by have := h.tn; omega, h.has, h.sep⟩
/-- a slot is stored -/
theorem Sta.set (h : Sta K p S0 B m M n σ S l) (hi : i < m) (ht : t.is K S0.H S v) (hs : t.ow = true → ∀ q ∈ del i l, q.2.ow = true → σ[q.1]? ≠ some (some v)) : Sta K p S0 B m M n (σ.set i (some v)) S (put i t l) := by
  have hi' : i < σ.length := by rw [h.len]; exact hi
  have same : ∀ q ∈ del i l, (σ.set i (some v))[q.1]? = σ[q.1]? := fun q hq => List.getElem?_set_ne (Ne.symm (del_mem hq).2)
  refine ⟨h.ok0, h.g, h.bs, by rw [List.length_set]; exact h.len, h.tb, h.tn, fun q hq => ?_, fun a ha b hb ne oa ob w ea => ?_⟩
  · rcases List.mem_cons.mp hq with rfl | hq
    · exact ⟨v, List.getElem?_set_self hi', ht⟩
    · rw [same q hq]
      exact h.has q (del_mem hq).1
  · rcases List.mem_cons.mp ha with rfl | ha
    · rw [List.getElem?_set_self hi'] at ea
      cases ea
      rcases List.mem_cons.mp hb with rfl | hb
      · exact absurd rfl ne
      · rw [same b hb]
        exact hs oa b hb ob
    · rw [same a ha] at ea
      rcases List.mem_cons.mp hb with rfl | hb
      · rw [List.getElem?_set_self hi']
        intro z
        cases z
        exact hs ob a ha oa ea
      · rw [same b hb]
        exact h.sep a (del_mem ha).1 b (del_mem hb).1 ne oa ob w ea
/-! ### what slots evaluate to -/
theorem ed_var (h : Sta K p S0 B m M n σ S l) (hg : get l i = some (.dat d)) : EvD K p (tVar i) σ S d := by
  obtain ⟨v, e, r⟩ := h.has _ (get_mem hg)
  exact ed_slot e r
theorem ev_var (h : Sta K p S0 B m M n σ S l) (hg : get l i = some (.val v)) : EvV K p (tVar i) σ S v := by
  obtain ⟨w, e, r⟩ := h.has _ (get_mem hg)
  cases r
  exact ev_slot e
theorem eq_var (h : Sta K p S0 B m M n σ S l) (hg : get l i = some (.own ds)) : EvQ K p (tVar i) σ S true ds := by
  obtain ⟨v, e, a, vs, rfl, h1, h2, h3, h4⟩ := h.has _ (get_mem hg)
  have ha := ok_ne h.ok0 h4
  exact fun S1 g Q q => ⟨_, e, q a vs S1 (Gr.refl g.ok) (Nat.le_refl _) (by rw [if_pos rfl]; exact ⟨g.hh _ _ h1 ha, ha⟩) (h2.mono g.ff)⟩
theorem eh_var (h : Sta K p S0 B m M n σ S l) (hg : get l i = some (.own ds)) : EvH K p (tVar i) σ S (.lst ds) := (eq_var h hg).hl

/-! ### statements -/
theorem s_dat (h : Sta K p S0 B m M n σ S l) (he : EvD K p te σ S d) (hi : i < m) (k : ∀ σ' S', Sta K p S0 B m M n σ' S' (put i (.dat d) l) → D.nx σ' S'.H) : tAsg te (gName i) D σ S.H :=
  he S (Gr.refl h.ok) _ fun v S2 g2 t2 r => k _ S2 ((h.grow0 g2 t2).set hi r (fun z => by cases z))
theorem s_N (h : Sta K p S0 B m M n σ S l) (he : EvN K p te σ S k P) (hi : i < m) (hn : n + k ≤ M) (kk : ∀ d σ' S', P d → Sta K p S0 B m M (n + k) σ' S' (put i (.dat d) l) → D.nx σ' S'.H) : tAsg te (gName i) D σ S.H :=
  he S (Gr.refl h.ok) (by have := h.tb; have := h.tn; omega) _ fun v d S2 g2 t2 r hp => kk d _ S2 hp ((h.grow g2 t2).set hi r (fun z => by cases z))
theorem s_own (h : Sta K p S0 B m M n σ S l) (he : EvO K p te σ S ds) (hi : i < m) (k : ∀ σ' S', Sta K p S0 B m M n σ' S' (put i (.own ds) l) → D.nx σ' S'.H) : tAsg te (gName i) D σ S.H :=
  he S (Gr.refl h.ok) _ fun a vs S2 g2 t2 h0 h1 h2 r => k _ S2 ((h.grow0 g2 t2).set hi ⟨a, vs, rfl, h1, r, h2, h.g.fresh h0⟩ (fun _ q hq ow z => by
    obtain ⟨w, e, q2⟩ := h.has q (del_mem hq).1
    rw [e] at z
    cases z
    obtain ⟨j, u⟩ := q
    cases u with
    | own es => obtain ⟨b, ws, eb, hb, _⟩ := q2; cases eb; rw [h0] at hb; cases hb
    | odc es => obtain ⟨b, ws, eb, hb, _⟩ := q2; cases eb; rw [h0] at hb; cases hb
    | dat _ => cases ow
    | val _ => cases ow))
theorem s_val (h : Sta K p S0 B m M n σ S l) (he : EvV K p te σ S v) (hi : i < m) (k : ∀ σ' S', Sta K p S0 B m M n σ' S' (put i (.val v) l) → D.nx σ' S'.H) : tAsg te (gName i) D σ S.H :=
  he S (Gr.refl h.ok) _ fun S2 g2 t2 => k _ S2 ((h.grow0 g2 t2).set hi rfl (fun z => by cases z))
theorem s_if {tt : TT} {tu tw : TS} {b : Bool} (h : Sta K p S0 B m M n σ S l) (he : EvT K p tt σ S b) (k1 : b = true → ∀ S', Sta K p S0 B m M n σ S' l → tu D σ S'.H) (k2 : b = false → ∀ S', Sta K p S0 B m M n σ S' l → tw D σ S'.H) : tIfS tt tu tw D σ S.H :=
  he S (Gr.refl h.ok) _ fun S2 g2 t2 => by
    cases b with
    | true => rw [if_pos rfl]; exact k1 rfl S2 (h.grow0 g2 t2)
    | false => rw [if_neg Bool.false_ne_true]; exact k2 rfl S2 (h.grow0 g2 t2)
theorem s_ret (h : Sta K p S0 B m M n σ S l) (he : EvD K p te σ S d) (k : ∀ v S', Gr K p S0 S' → S'.T ≤ S0.T + n → Rp K S'.F v d → D.rt v S'.H) : tRet te D σ S.H :=
  he S (Gr.refl h.ok) _ fun v S2 g2 t2 r => k v S2 (h.g.trans g2) (by have := h.tn; omega) r
theorem s_retN (h : Sta K p S0 B m M n σ S l) (he : EvN K p te σ S k P) (hn : n + k ≤ M) (kk : ∀ v d S', P d → Gr K p S0 S' → S'.T ≤ S0.T + (n + k) → Rp K S'.F v d → D.rt v S'.H) : tRet te D σ S.H :=
  he S (Gr.refl h.ok) (by have := h.tb; have := h.tn; omega) _ fun v d S2 g2 t2 r hp => kk v d S2 hp (h.g.trans g2) (by have := h.tn; omega) r
/-- a list of ours is handed out -/
theorem ed_own (h : Sta K p S0 B m M n σ S l) (hg : get l i = some (.own ds)) (k : ∀ v S', S'.H = S.H → Gr K p S0 S' → S'.T ≤ S0.T + n → Rp K S'.F v (.lst ds) → D.rt v S'.H) : tRet (tVar i) D σ S.H := by
  obtain ⟨v, e, a, vs, rfl, h1, h2, h3, h4⟩ := h.has _ (get_mem hg)
  exact ⟨_, e, k (.ref a) ⟨upd S.F a (.lst vs), S.H, S.T⟩ rfl (h.g.fix h4 h1 h3 (ok_ne h.ok0 h4)) h.tn (.lst upd_same (h2.mono (Ex.new h3)))⟩
/-- a slot of ours changes its list -/
theorem Sta.chg {a : Addr} {vs ws : List V} (h : Sta K p S0 B m M n σ S l) (hg : get l i = some (.own ds)) (e : σ[i]? = some (some (.ref a))) (h1 : S.H a = some (.lst vs)) (r : Rps K S.F ws es) :
    Sta K p S0 B m M n σ ⟨S.F, upd S.H a (.lst ws), S.T⟩ (put i (.own es) l) := by
  obtain ⟨v, e', b, us, rfl, h1', h2, h3, h4⟩ := h.has _ (get_mem hg)
  rw [e] at e'
  cases e'
  have hp := ok_ne h.ok0 h4
  have g : Gr K p S0 ⟨S.F, upd S.H a (.lst ws), S.T⟩ := by
    refine ⟨h.g.ff, fun b o q np nt => ?_, fun b q => ?_, h.g.old, ⟨fun b o q => ?_, fun b q => ?_, h.ok.nt, tabs_lst h.ok.tb h1⟩⟩ <;> dsimp only at *
    · have hb : b ≠ a := fun z => by subst z; rw [h4] at q; cases q
      rw [upd_ne hb]; exact h.g.hh b o q np nt
    · intro z
      by_cases hb : b = a
      · subst hb; rw [upd_same] at z; cases z
      · rw [upd_ne hb] at z; exact h.g.al b q z
    · have hb : b ≠ a := fun z => by subst z; rw [h3] at q; cases q
      rw [upd_ne hb]; exact h.ok.sub b o q
    · obtain ⟨⟨c, t, r', cs, q1, q2, q3⟩, q4⟩ := h.ok.pen b q
      have hb : b ≠ a := fun z => by subst z; exact hp q.symm
      exact ⟨⟨c, t, r', cs, by rw [upd_ne hb]; exact q1, q2, q3⟩, q4⟩
  have kp : ∀ {u : V} {t : Ty}, t.is K S0.H S u → (t.ow = true → u ≠ .ref a) → t.is K S0.H ⟨S.F, upd S.H a (.lst ws), S.T⟩ u := fun {u t} q no => by
    cases t with
    | dat _ => exact q
    | val _ => exact q
    | own es =>
      obtain ⟨b, us, rfl, q1, q2, q3, q4⟩ := q
      have hb : b ≠ a := fun z => no rfl (by rw [z])
      exact ⟨b, us, rfl, by show upd S.H a _ b = _; rw [upd_ne hb]; exact q1, q2, q3, q4⟩
    | odc es =>
      obtain ⟨b, us, rfl, q1, q2, q3, q4, q5⟩ := q
      have hb : b ≠ a := fun z => no rfl (by rw [z])
      exact ⟨b, us, rfl, by show upd S.H a _ b = _; rw [upd_ne hb]; exact q1, q2, q3, q4, q5⟩
  refine ⟨h.ok0, g, h.bs, h.len, h.tb, h.tn, fun q hq => ?_, fun x hx y hy ne ox oy w ex => ?_⟩
  · rcases List.mem_cons.mp hq with rfl | hq
    · exact ⟨_, e, a, ws, rfl, upd_same, r, h3, h4⟩
    · obtain ⟨u, eu, qu⟩ := h.has q (del_mem hq).1
      refine ⟨u, eu, kp qu fun ow z => ?_⟩
      subst z
      exact h.sep _ (get_mem hg) q (del_mem hq).1 (Ne.symm (del_mem hq).2) rfl ow _ e eu
  · rcases List.mem_cons.mp hx with rfl | hx
    · rcases List.mem_cons.mp hy with rfl | hy
      · exact absurd rfl ne
      · exact h.sep (i, .own ds) (get_mem hg) y (del_mem hy).1 ne rfl oy w ex
    · rcases List.mem_cons.mp hy with rfl | hy
      · exact h.sep x (del_mem hx).1 (i, .own ds) (get_mem hg) ne ox rfl w ex
      · exact h.sep x (del_mem hx).1 y (del_mem hy).1 ne ox oy w ex
/-- x.append(e) -/
theorem s_app (h : Sta K p S0 B m M n σ S l) (hg : get l i = some (.own ds)) (he : EvD K p te σ S d) (hz : ds.length < sizeLine) (k : ∀ S', Sta K p S0 B m M n σ S' (put i (.own (ds ++ [d])) l) → D.nx σ S'.H) :
    tDrop (tBM K "list" rAppend (tVar i) (tCons te tNil)) D σ S.H := by
  obtain ⟨v, e, a, vs, rfl, h1, h2, h3, h4⟩ := h.has _ (get_mem hg)
  refine ⟨_, e, .inl ⟨rfl, vs, .of h1⟩, he S (Gr.refl h.ok) _ fun x S2 g2 t2 rx => ?_⟩
  have H2 := h.grow0 g2 t2
  have e1 := g2.hh _ _ h1 (ok_ne h.ok0 h4)
  refine ⟨a, vs, x, rfl, rfl, e1, by rw [h2.length]; exact hz, ?_⟩
  exact k ⟨S2.F, upd S2.H a (.lst (vs ++ [x])), S2.T⟩ (H2.chg hg e e1 ((h2.mono g2.ff).snoc rx))
/-- x.extend(e) -/
theorem s_ext (h : Sta K p S0 B m M n σ S l) (hg : get l i = some (.own ds)) (he : EvQ K p te σ S true es) (hz : ds.length + es.length ≤ sizeLine) (k : ∀ S', Sta K p S0 B m M n σ S' (put i (.own (ds ++ es)) l) → D.nx σ S'.H) :
    tDrop (tBM K "list" rExtend (tVar i) (tCons te tNil)) D σ S.H := by
  obtain ⟨v, e, a, vs, rfl, h1, h2, h3, h4⟩ := h.has _ (get_mem hg)
  refine ⟨_, e, .inl ⟨rfl, vs, .of h1⟩, he S (Gr.refl h.ok) _ fun b xs S2 g2 t2 hb rx => ?_⟩
  rw [if_pos rfl] at hb
  have H2 := h.grow0 g2 t2
  have e1 := g2.hh _ _ h1 (ok_ne h.ok0 h4)
  refine ⟨a, b, vs, xs, rfl, rfl, e1, hb.1, by rw [h2.length, rx.length]; exact hz, ?_⟩
  exact k ⟨S2.F, upd S2.H a (.lst (vs ++ xs)), S2.T⟩ (H2.chg hg e e1 ((h2.mono g2.ff).append rx))
/-- y = x.pop() -/
theorem s_pop (h : Sta K p S0 B m M n σ S l) (hg : get l i = some (.own (ds ++ [d]))) (hj : j < m) (k : ∀ σ' S', Sta K p S0 B m M n σ' S' (put j (.dat d) (put i (.own ds) l)) → D.nx σ' S'.H) :
    tAsg (tBM0 K "list" rPop (tVar i)) (gName j) D σ S.H := by
  obtain ⟨v, e, a, vs, rfl, h1, h2, h3, h4⟩ := h.has _ (get_mem hg)
  have el : vs.length = ds.length + 1 := by rw [h2.length, List.length_append, List.length_singleton]
  obtain ⟨x, ex, rx⟩ := h2.get (i := ds.length) (d := d) (by simp)
  refine ⟨_, e, .inl ⟨rfl, vs, .of h1⟩, a, vs, x, rfl, rfl, h1, by rw [el]; exact ex, ?_⟩
  have hd : Rps K S.F vs.dropLast ds := by
    have q := h2.dropLast
    rw [List.dropLast_concat] at q
    exact q
  have H2 := h.chg hg e h1 hd
  exact k _ ⟨S.F, upd S.H a (.lst vs.dropLast), S.T⟩ (H2.set hj rx fun z => by cases z)
/-- y = x.pop(i) -/
theorem s_popAt {z : Int} {c : Nat} {ti : TE} (h : Sta K p S0 B m M n σ S l) (hg : get l i = some (.own ds)) (hi : EvD K p ti σ S (.int z)) (hb : -(2 ^ 63) ≤ z ∧ z < 2 ^ 63) (hc : seqIndex? z ds.length = some c) (hd : ds[c]? = some d) (hj : j < m)
    (k : ∀ σ' S', Sta K p S0 B m M n σ' S' (put j (.dat d) (put i (.own (ds.eraseIdx c)) l)) → D.nx σ' S'.H) :
    tAsg (tBM K "list" rPopAt (tVar i) (tCons ti tNil)) (gName j) D σ S.H := by
  obtain ⟨v, e, a, vs, rfl, h1, h2, h3, h4⟩ := h.has _ (get_mem hg)
  refine ⟨_, e, .inl ⟨rfl, vs, .of h1⟩, hi S (Gr.refl h.ok) _ fun x S2 g2 t2 rx => ?_⟩
  cases rx
  have H2 := h.grow0 g2 t2
  have e1 := g2.hh _ _ h1 (ok_ne h.ok0 h4)
  obtain ⟨x, ex, rx⟩ := h2.get hd
  refine ⟨a, vs, z, c, x, rfl, rfl, e1, hb.1, hb.2, by rw [h2.length]; exact hc, ex, ?_⟩
  have H3 := H2.chg hg e e1 ((h2.mono g2.ff).eraseIdx c)
  exact k _ ⟨S2.F, upd S2.H a (.lst (vs.eraseIdx c)), S2.T⟩ (H3.set hj (rx.mono g2.ff) fun z => by cases z)
/-- x[i] = e -/
theorem s_setL {z : Int} {c : Nat} {ti : TE} (h : Sta K p S0 B m M n σ S l) (hg : get l i = some (.own ds)) (he : EvD K p te σ S d) (hi : EvD K p ti σ S (.int z)) (hc : ixN ds.length z = some c)
    (k : ∀ S', Sta K p S0 B m M n σ S' (put i (.own (ds.set c d)) l) → D.nx σ S'.H) : tAsg te (gSub (tVar i) ti rSetL) D σ S.H := by
  obtain ⟨v, e, a, vs, rfl, h1, h2, h3, h4⟩ := h.has _ (get_mem hg)
  refine he S (Gr.refl h.ok) _ fun y S2 g2 t2 ry => ⟨_, e, hi S2 g2 _ fun x S3 g3 t3 rx => ?_⟩
  cases rx
  have H2 := h.grow0 (g2.trans g3) (by omega)
  have e1 := g3.hh _ _ (g2.hh _ _ h1 (ok_ne h.ok0 h4)) (ok_ne h.ok0 h4)
  refine ⟨a, vs, z, c, rfl, rfl, e1, by rw [h2.length]; exact hc, ?_⟩
  exact k ⟨S3.F, upd S3.H a (.lst (vs.set c y)), S3.T⟩ (H2.chg hg e e1 (Rps.set (ry.mono g3.ff) c ((h2.mono g2.ff).mono g3.ff)))
theorem s_seq {t u : TS} (h : t { D with nx := u D } σ S.H) : tSeq t u D σ S.H := h
theorem s_next (k : D.nx σ S.H) : tNext D σ S.H := k

/-! ### loops -/
/-- while: the state a of the loop, its slots e a, its measure -/
theorem s_while {α : Type} {c : TT} {tb : TS} (I : α → Prop) (e : α → En) (μ : α → Nat) (b : α → Bool) (a0 : α) (h : Sta K p S0 B m M n σ S l) (h0 : I a0) (hs : sub (e a0) l)
    (ht : ∀ a σ S, I a → Sta K p S0 B m M n σ S (e a) → EvT K p c σ S (b a))
    (hb : ∀ a σ S, I a → b a = true → Sta K p S0 B m M n σ S (e a) → ∀ D' : Ends, D'.rt = D.rt → (∀ a' σ' S' l', I a' → μ a' < μ a → Sta K p S0 B m M n σ' S' l' → sub (e a') l' → D'.nx σ' S'.H) →
      (∀ a' σ' S' l', I a' → μ a' < μ a → Sta K p S0 B m M n σ' S' l' → sub (e a') l' → D'.ct σ' S'.H) → (∀ σ' H', D'.bk σ' H' = D.nx σ' H') → tb D' σ S.H)
    (hd : ∀ a σ S, I a → b a = false → Sta K p S0 B m M n σ S (e a) → D.nx σ S.H) : tWhile c tb D σ S.H := by
  refine ⟨fun k σ' H' => ∃ a S', I a ∧ μ a = k ∧ S'.H = H' ∧ Sta K p S0 B m M n σ' S' (e a), ⟨μ a0, a0, S, h0, rfl, rfl, h.weak hs⟩, ?_⟩
  rintro k σ' H' ⟨a, S', ia, rfl, rfl, hst⟩
  refine ht a σ' S' ia hst S' (Gr.refl hst.ok) _ fun S2 g2 t2 => ?_
  have h2 := hst.grow0 g2 t2
  cases hba : b a with
  | true =>
    rw [if_pos rfl]
    have kk : ∀ a' σ' S' l', I a' → μ a' < μ a → Sta K p S0 B m M n σ' S' l' → sub (e a') l' → ∃ m', m' < μ a ∧ ∃ a S1, I a ∧ μ a = m' ∧ S1.H = S'.H ∧ Sta K p S0 B m M n σ' S1 (e a) :=
      fun a' σ' S' l' i' lt st' sb => ⟨μ a', lt, a', S', i', rfl, rfl, st'.weak sb⟩
    refine ⟨fun σ' H' => ∃ m', m' < μ a ∧ ∃ a S1, I a ∧ μ a = m' ∧ S1.H = H' ∧ Sta K p S0 B m M n σ' S1 (e a), fun σ' H' q => q, ?_⟩
    exact hb a σ' S2 ia hba h2 _ rfl kk kk fun _ _ => rfl
  | false =>
    rw [if_neg Bool.false_ne_true]
    exact hd a σ' S2 ia hba h2
theorem Sta.base {B' : Hp} (h : Sta K p S0 B m M n σ S l) (e : Ex B' S.F) : Sta K p S0 B' m M n σ S l := ⟨h.ok0, h.g, e, h.len, h.tb, h.tn, h.has, h.sep⟩
/-! ### what is walked: its items are data -/
def Src (K : PySem.W.Frag) [LT K] (p : Option Addr) (J : It) (B : Hp) (ds : List DL.D) : Prop := ∀ (S' : Wd), Ex B S'.F → Ok K p S' → ∀ c : Nat,
  (c < ds.length → J.go c S'.H ∧ ∀ x H', J.yld c S'.H x H' → H' = S'.H ∧ ∃ d, ds[c]? = some d ∧ Rp K S'.F x d) ∧ (c = ds.length → J.stop c S'.H)
def EvS (K : PySem.W.Frag) [LT K] (p : Option Addr) (wi : TI) (σ : L2.St) (S : Wd) (ds : List DL.D) : Prop := ∀ S1, Gr K p S S1 → ∀ R : It → Hp → Prop, (∀ J S2, Gr K p S1 S2 → S2.T ≤ S1.T → Src K p J S2.F ds → R J S2.H) → wi σ S1.H R
theorem es_list (h : EvD K p te σ S (.lst ds)) : EvS K p (iList K te) σ S ds := fun S1 g R q => h S1 g _ fun v S2 g2 t2 r => by
  cases r with
  | @lst a vs _ h1 r2 =>
  have there : ∀ S' : Wd, Ex S2.F S'.F → Ok K p S' → SqL K S'.H a vs := fun S' e o => .of (o.sub _ _ (e _ _ h1))
  refine ⟨a, rfl, ⟨vs, there S2 (fun _ _ q => q) g2.ok⟩, q _ S2 g2 t2 fun S' e o c => ⟨fun hc => ?_, fun hc => ?_⟩⟩
  · obtain ⟨x, hx, rx⟩ := r2.get (List.getElem?_eq_getElem hc)
    refine ⟨⟨vs, x, there S' e o, hx⟩, fun y H' hy => ?_⟩
    obtain ⟨e2, hy⟩ := hy
    have e3 := hy vs (there S' e o)
    rw [hx] at e3
    cases e3
    exact ⟨e2, _, List.getElem?_eq_getElem hc, rx.mono e⟩
  · exact ⟨vs, there S' e o, by rw [r2.length]; omega⟩
theorem es_tup (h : EvD K p te σ S (.tup ds)) : EvS K p (iTup K te) σ S ds := fun S1 g R q => h S1 g _ fun v S2 g2 t2 r => by
  cases r with
  | @tup a vs _ h1 r2 =>
  have there : ∀ S' : Wd, Ex S2.F S'.F → Ok K p S' → SqT K S'.H a vs := fun S' e o => Evl.ex_t (e.trans o.sub) h1
  refine ⟨a, rfl, ⟨vs, there S2 (fun _ _ q => q) g2.ok⟩, q _ S2 g2 t2 fun S' e o c => ⟨fun hc => ?_, fun hc => ?_⟩⟩
  · obtain ⟨x, hx, rx⟩ := r2.get (List.getElem?_eq_getElem hc)
    refine ⟨⟨vs, x, there S' e o, hx⟩, fun y H' hy => ?_⟩
    obtain ⟨e2, hy⟩ := hy
    have e3 := hy vs (there S' e o)
    rw [hx] at e3
    cases e3
    exact ⟨e2, _, List.getElem?_eq_getElem hc, rx.mono e⟩
  · exact ⟨vs, there S' e o, by rw [r2.length]; omega⟩
/-- the signs of a text -/
def signs (s : Str) : List DL.D := s.cps.toList.map fun c => .str ⟨#[c]⟩
theorem es_str {s : Str} (h : EvD K p te σ S (.str s)) : EvS K p (iStr te) σ S (signs s) := fun S1 g R q => h S1 g _ fun v S2 g2 t2 r => by
  cases r
  refine ⟨s, rfl, q _ S2 g2 t2 fun S' e o c => ⟨fun hc => ?_, fun hc => ?_⟩⟩
  · have hc' : c < s.cps.size := by unfold signs at hc; rw [List.length_map, Array.length_toList] at hc; exact hc
    refine ⟨hc', fun x H' hx => ?_⟩
    obtain ⟨e1, z, e2, e3⟩ := hx
    subst e3
    refine ⟨e1, .str ⟨#[z]⟩, ?_, .str _⟩
    unfold signs
    rw [List.getElem?_map, Array.getElem?_toList, e2]
    rfl
  · unfold signs at hc
    rw [List.length_map, Array.length_toList] at hc
    exact Nat.le_of_eq hc.symm
/-- lo, lo + 1, .. -/
def rng (lo : Int) (n : Nat) : List DL.D := (List.range n).map fun i => .int (lo + (i : Nat))
theorem rng_get {lo : Int} {n c : Nat} (h : c < n) : (rng lo n)[c]? = some (.int (lo + (c : Nat))) := by
  unfold rng
  rw [List.getElem?_map, List.getElem?_range h]
  rfl
theorem src_rng {lo : Int} {n : Nat} {B : Hp} : Src K p (Itr lo n) B (rng lo n) := fun S' e o c => by
  have el : (rng lo n).length = n := by unfold rng; rw [List.length_map, List.length_range]
  rw [el]
  refine ⟨fun hc => ⟨hc, fun x H' hx => ?_⟩, fun hc => Nat.le_of_eq hc.symm⟩
  obtain ⟨e1, e2⟩ := hx
  subst e2
  exact ⟨e1, _, rng_get hc, .int _⟩
theorem es_rng1 {ta : TA} {z : Int} (h : EvAH K p ta σ S [.int z]) (hz : -(2 ^ 62) ≤ z ∧ z < 2 ^ 62) : EvS K p (iRng1 ta) σ S (rng 0 z.toNat) := fun S1 g R q => h S1 g _ fun vs S2 g2 t2 r => by
  cases r with
  | cons r1 r2 => cases r2; cases r1; exact ⟨z, rfl, hz.1, hz.2, q _ S2 g2 t2 src_rng⟩
theorem es_rng2 {ta : TA} {y z : Int} (h : EvAH K p ta σ S [.int y, .int z]) (hy : -(2 ^ 62) ≤ y ∧ y < 2 ^ 62) (hz : -(2 ^ 62) ≤ z ∧ z < 2 ^ 62) : EvS K p (iRng2 ta) σ S (rng y (z - y).toNat) := fun S1 g R q => h S1 g _ fun vs S2 g2 t2 r => by
  cases r with
  | cons r1 r2 => cases r2 with
    | cons r2 r3 => cases r3; cases r1; cases r2; exact ⟨y, z, rfl, ⟨hy.1, hy.2, hz.1, hz.2⟩, q _ S2 g2 t2 src_rng⟩
/-- for x in what is walked: each turn draws at most w times -/
theorem s_for {α : Type} {wi : TI} {tb : TS} {w : Nat} (I : Nat → α → Prop) (e : α → En) (a0 : α) (h : Sta K p S0 B m M n σ S l) (hq : EvS K p wi σ S ds) (hi : i < m) (h0 : I 0 a0) (hs : sub (e a0) l)
    (hb : ∀ (B' : Hp) (c : Nat) (a : α) (d : DL.D) σ S, ds[c]? = some d → I c a → Sta K p S0 B' m M (n + c * w) σ S (put i (.dat d) (e a)) → ∀ D' : Ends, D'.rt = D.rt → (∀ a' σ' S' l', I (c + 1) a' → Sta K p S0 B' m M (n + (c + 1) * w) σ' S' l' → sub (e a') l' → D'.nx σ' S'.H) →
      (∀ a' σ' S' l', I (c + 1) a' → Sta K p S0 B' m M (n + (c + 1) * w) σ' S' l' → sub (e a') l' → D'.ct σ' S'.H) → (∀ σ' H', D'.bk σ' H' = D.nx σ' H') → tb D' σ S.H)
    (hd : ∀ a σ S, I ds.length a → Sta K p S0 B m M (n + ds.length * w) σ S (e a) → D.nx σ S.H) : tFor wi (gName i) tb D σ S.H := by
  refine hq S (Gr.refl h.ok) _ fun J S2 g2 t2 src => ?_
  have H2 := h.grow0 g2 t2
  refine ⟨fun c k σ' H' => k = ds.length - c ∧ c ≤ ds.length ∧ ∃ a S', I c a ∧ S'.H = H' ∧ Sta K p S0 S2.F m M (n + c * w) σ' S' (e a), ⟨ds.length, by simp, Nat.zero_le _, a0, S2, h0, rfl, by rw [Nat.zero_mul]; exact (H2.base (fun _ _ q => q)).weak hs⟩, ?_⟩
  rintro c k σ' H' ⟨rfl, hc, a, S', ia, rfl, st⟩
  obtain ⟨s1, s2⟩ := src S' st.bs st.ok c
  by_cases hlt : c < ds.length
  · obtain ⟨go, yl⟩ := s1 hlt
    refine .inr ⟨go, fun σ' H' => ∃ a S', I (c + 1) a ∧ S'.H = H' ∧ Sta K p S0 S2.F m M (n + (c + 1) * w) σ' S' (e a), fun σ' H' q => ⟨ds.length - (c + 1), by omega, rfl, hlt, q⟩, fun x H' y => ?_⟩
    obtain ⟨eH, d, hd', rx⟩ := yl x H' y
    subst eH
    have st2 : Sta K p S0 S2.F m M (n + c * w) (σ'.set i (some x)) S' (put i (.dat d) (e a)) := st.set hi rx (fun z => by cases z)
    exact hb S2.F c a d _ S' hd' ia st2 _ rfl (fun a' σ'' S'' l' i' st' sb => ⟨a', S'', i', rfl, st'.weak sb⟩) (fun a' σ'' S'' l' i' st' sb => ⟨a', S'', i', rfl, st'.weak sb⟩) fun _ _ => rfl
  · have ec : c = ds.length := by omega
    subst ec
    exact .inl ⟨s2 rfl, hd a σ' S' ia (st.base (h.bs.trans (g2.ff.trans st.bs)))⟩

/-! ### list comprehensions -/
theorem get_del_mem {vs : List Nat} : ∀ {l : En} {q : Nat × Ty}, q ∈ l.filter (fun q => !vs.contains q.1) → q ∈ l ∧ q.1 ∉ vs := fun {l q} h => by
  obtain ⟨h1, h2⟩ := List.mem_filter.mp h
  exact ⟨h1, fun z => by simp [z] at h2⟩
theorem wipe_get {σ : L2.St} {j : Nat} : ∀ {vs : List Nat}, j ∉ vs → (wipe σ vs)[j]? = σ[j]?
  | [], _ => rfl
  | v :: vs, h => by
    unfold wipe
    rw [List.getElem?_set_ne (fun z => h (by rw [z]; exact List.mem_cons_self))]
    exact wipe_get fun z => h (List.mem_cons_of_mem _ z)
/-- the state within a comprehension's block -/
theorem Sta.wiped (vs : List Nat) (h : Sta K p S0 B m M n σ S l) : Sta K p S0 B m M n (wipe σ vs) S (l.filter fun q => !vs.contains q.1) := by
  refine ⟨h.ok0, h.g, h.bs, by rw [wipe_length]; exact h.len, h.tb, h.tn, fun q hq => ?_, fun a ha b hb ne oa ob v ea => ?_⟩
  · obtain ⟨h1, h2⟩ := get_del_mem hq
    rw [wipe_get h2]
    exact h.has q h1
  · obtain ⟨h1, h2⟩ := get_del_mem ha
    obtain ⟨h3, h4⟩ := get_del_mem hb
    rw [wipe_get h2] at ea
    rw [wipe_get h4]
    exact h.sep a h1 b h3 ne oa ob v ea
theorem wipe_set {σ : L2.St} {i : Nat} {x : Option V} : ∀ {vs : List Nat}, i ∈ vs → wipe (σ.set i x) vs = wipe σ vs
  | v :: vs, h => by
    unfold wipe
    by_cases hv : i ∈ vs
    · rw [wipe_set hv]
    · have e : v = i := by
        rcases List.mem_cons.mp h with h | h
        · exact h.symm
        · exact absurd h hv
      subst e
      have : ∀ vs : List Nat, v ∉ vs → wipe (σ.set v x) vs = (wipe σ vs).set v x := by
        intro vs
        induction vs with
        | nil => intro _; rfl
        | cons u us ih =>
          intro hu
          unfold wipe
          rw [ih (fun z => hu (List.mem_cons_of_mem _ z)), List.set_comm]
          exact fun z => hu (by rw [z]; exact List.mem_cons_self)
      rw [this vs hv, List.set_set]
theorem wipe_wipe {σ : L2.St} : ∀ {vs us : List Nat}, (∀ v ∈ vs, v ∈ us) → wipe (wipe σ vs) us = wipe σ us
  | [], _, _ => rfl
  | v :: vs, us, h => by
    show wipe ((wipe σ vs).set v none) us = _
    rw [wipe_set (h v List.mem_cons_self), wipe_wipe fun x hx => h x (List.mem_cons_of_mem _ hx)]
/-- an object that is new since S1, and not fixed, changes -/
theorem Gr.chg {A : Addr} {o o' : HO} (ok1 : Ok K p S1) (g : Gr K p S1 S) (h0 : S1.H A = none) (hF : S.F A = none) (hA : S.H A = some o') (n1 : ∀ ps, o' ≠ .tbl ps) (n2 : ∀ c q, o' ≠ LamX.CodeO c q) (nt : NoT o := by intro ps z; cases z) : Gr K p S1 ⟨S.F, upd S.H A o, S.T⟩ := by
  refine ⟨g.ff, fun b o q np nt => ?_, fun b q => ?_, g.old, ⟨fun b o q => ?_, fun b q => ?_, g.ok.nt, tabs_chg g.ok.tb hA n1 n2 nt⟩⟩ <;> dsimp only at *
  · rw [upd_ne (ne_of_none q h0)]
    exact g.hh b o q np nt
  · have hb : b ≠ A := fun z => by subst z; exact q h0
    rw [upd_ne hb]
    exact g.al b q
  · have hb : b ≠ A := fun z => by subst z; rw [hF] at q; cases q
    rw [upd_ne hb]
    exact g.ok.sub b o q
  · obtain ⟨⟨c, t, r, cs, q1, q2, q3⟩, q4⟩ := g.ok.pen b q
    have hb : b ≠ A := fun z => by subst z; exact ok_ne ok1 h0 q.symm
    exact ⟨⟨c, t, r, cs, by rw [upd_ne hb]; exact q1, q2, q3⟩, q4⟩
/-- [f x for x in what is walked if b x] -/
theorem eo_lc {wi : TI} {tt : TT} {vs : List Nat} {b : DL.D → Bool} {f : DL.D → DL.D} (h : Sta K p S0 B m M n σ S l) (hq : EvS K p wi σ S ds) (hi : i < m) (hv : vs.contains i = true)
    (he : ∀ d ∈ ds, ∀ B' n' σ' S', Sta K p S0 B' m M n' σ' S' (put i (.dat d) (l.filter fun q => !vs.contains q.1)) → EvT K p tt σ' S' (b d) ∧ (b d = true → EvD K p te σ' S' (f d))) (hz : ds.length < sizeLine) :
    EvO K p (tLc wi (gName i) tt te vs) σ S ((ds.filter b).map f) := by
  intro S1 g1 Q q
  have hm : i ∈ vs := by simpa using hv
  refine hq S1 g1 _ fun J S2 g2 t2 src => ?_
  intro A hA
  have hF2 := g2.ok.freshF hA
  have hAp := ok_ne g2.ok hA
  refine ⟨fun c k H' => k = ds.length - c ∧ c ≤ ds.length ∧ ∃ S' acc, S'.H = H' ∧ Gr K p S2 S' ∧ S'.T ≤ S2.T ∧ S'.H A = some (.lst acc) ∧ S'.F A = none ∧ Rps K S'.F acc (((ds.take c).filter b).map f),
    ⟨ds.length, by simp, Nat.zero_le _, ⟨S2.F, upd S2.H A (.lst []), S2.T⟩, [], rfl, Gr.newO g2.ok hA, Nat.le_refl _, upd_same, hF2, by rw [List.take_zero]; exact .nil⟩, ?_⟩
  rintro c k H' ⟨rfl, hc, S', acc, rfl, g', t', hA', hF', ra⟩
  obtain ⟨s1, s2⟩ := src S' g'.ff g'.ok c
  by_cases hlt : c < ds.length
  · obtain ⟨go, yl⟩ := s1 hlt
    refine .inr ⟨go, fun H' => ∃ S' acc, S'.H = H' ∧ Gr K p S2 S' ∧ S'.T ≤ S2.T ∧ S'.H A = some (.lst acc) ∧ S'.F A = none ∧ Rps K S'.F acc (((ds.take (c + 1)).filter b).map f), fun H' q => ⟨ds.length - (c + 1), by omega, rfl, hlt, q⟩, fun x H' y => ?_⟩
    obtain ⟨eH, d, hd, rx⟩ := yl x H' y
    subst eH
    have st := (h.any ((g1.trans g2).trans g')).wiped vs
    have st2 := (st.set (t := .dat d) hi rx (fun z => by cases z)).base (fun _ _ q => q)
    obtain ⟨e1, e2⟩ := he d (List.mem_of_getElem? hd) _ _ _ _ st2
    refine ⟨by rw [wipe_set hm, wipe_wipe fun _ z => z], e1 S' (Gr.refl g'.ok) _ fun S3 g3 t3 => ?_⟩
    have tk : (ds.take (c + 1)).filter b = if b d = true then (ds.take c).filter b ++ [d] else (ds.take c).filter b := by
      rw [List.take_succ, hd, List.filter_append]
      simp only [Option.toList, List.filter_cons, List.filter_nil]
      split <;> simp
    cases hb : b d with
    | true =>
      rw [if_pos rfl]
      refine e2 hb S3 g3 _ fun y S4 g4 t4 ry => ?_
      have g5 := g3.trans g4
      have hA4 := g5.hh _ _ hA' hAp
      have hF4 : S4.F A = none := (g5.old A (by rw [hA']; simp)).trans hF'
      have hl : acc.length ≤ ds.length := by
        rw [ra.length, List.length_map]
        exact Nat.le_trans (List.length_filter_le _ _) (by rw [List.length_take]; omega)
      refine ⟨acc, hA4, by omega, ⟨S4.F, upd S4.H A (.lst (acc ++ [y])), S4.T⟩, acc ++ [y], rfl, Gr.chg g2.ok (g'.trans g5) hA hF4 hA4 (fun ps z => by cases z) code_ne_lst, by show S4.T ≤ _; omega, upd_same, hF4, ?_⟩
      rw [tk, hb, if_pos rfl, List.map_append]
      exact ((ra.mono g5.ff).snoc ry)
    | false =>
      rw [if_neg Bool.false_ne_true]
      have hA3 := g3.hh _ _ hA' hAp
      have hF3 : S3.F A = none := (g3.old A (by rw [hA']; simp)).trans hF'
      refine ⟨S3, acc, rfl, g'.trans g3, by omega, hA3, hF3, ?_⟩
      rw [tk, hb, if_neg Bool.false_ne_true]
      exact ra.mono g3.ff
  · have e : c = ds.length := by omega
    subst e
    rw [List.take_length] at ra
    exact .inl ⟨s2 rfl, q A acc S' (g2.trans g') (by omega) (g2.fresh hA) hA' hF' ra⟩
/-- [draws for x in what is walked], no test; each item draws at most w times -/
theorem en_lc {wi : TI} {vs : List Nat} {w : Nat} {R : DL.D → DL.D → Prop} (h : Sta K p S0 B m M n σ S l) (hq : EvS K p wi σ S ds) (hi : i < m) (hv : vs.contains i = true)
    (he : ∀ d ∈ ds, ∀ B' n' σ' S', Sta K p S0 B' m M n' σ' S' (put i (.dat d) (l.filter fun q => !vs.contains q.1)) → EvN K p te σ' S' w (R d)) (hz : ds.length < sizeLine) :
    EvON K p (tLc wi (gName i) tYes te vs) σ S (ds.length * w) (fun es => es.length = ds.length ∧ ∀ (c : Nat) (d e : DL.D), ds[c]? = some d → es[c]? = some e → R d e) := by
  intro S1 g1 hB Q q
  have hm : i ∈ vs := by simpa using hv
  refine hq S1 g1 _ fun J S2 g2 t2 src => ?_
  intro A hA
  have hF2 := g2.ok.freshF hA
  have hAp := ok_ne g2.ok hA
  refine ⟨fun c k H' => k = ds.length - c ∧ c ≤ ds.length ∧ ∃ S' acc es, S'.H = H' ∧ Gr K p S2 S' ∧ S'.T ≤ S2.T + c * w ∧ S'.H A = some (.lst acc) ∧ S'.F A = none ∧ Rps K S'.F acc es ∧ es.length = c ∧ ∀ (c' : Nat) (d e : DL.D), ds[c']? = some d → es[c']? = some e → R d e,
    ⟨ds.length, by simp, Nat.zero_le _, ⟨S2.F, upd S2.H A (.lst []), S2.T⟩, [], [], rfl, Gr.newO g2.ok hA, by show S2.T ≤ _; omega, upd_same, hF2, .nil, rfl, fun c' d e _ q => by simp at q⟩, ?_⟩
  rintro c k H' ⟨rfl, hc, S', acc, es, rfl, g', t', hA', hF', ra, el, hes⟩
  obtain ⟨s1, s2⟩ := src S' g'.ff g'.ok c
  by_cases hlt : c < ds.length
  · obtain ⟨go, yl⟩ := s1 hlt
    refine .inr ⟨go, fun H' => ∃ S' acc es, S'.H = H' ∧ Gr K p S2 S' ∧ S'.T ≤ S2.T + (c + 1) * w ∧ S'.H A = some (.lst acc) ∧ S'.F A = none ∧ Rps K S'.F acc es ∧ es.length = c + 1 ∧ ∀ (c' : Nat) (d e : DL.D), ds[c']? = some d → es[c']? = some e → R d e, fun H' q => ⟨ds.length - (c + 1), by omega, rfl, hlt, q⟩, fun x H' y => ?_⟩
    obtain ⟨eH, d, hd, rx⟩ := yl x H' y
    subst eH
    have st := (h.any ((g1.trans g2).trans g')).wiped vs
    have st2 := (st.set (t := .dat d) hi rx (fun z => by cases z)).base (fun _ _ q => q)
    have e2 := he d (List.mem_of_getElem? hd) _ _ _ _ st2
    have hw : c * w + w ≤ ds.length * w := by
      have : (c + 1) * w ≤ ds.length * w := Nat.mul_le_mul_right w hlt
      rw [Nat.add_mul, Nat.one_mul] at this
      exact this
    refine ⟨by rw [wipe_set hm, wipe_wipe fun _ z => z], ?_⟩
    show te _ S'.H _
    refine e2 S' (Gr.refl g'.ok) (by omega) _ fun y e S4 g4 t4 ry hR => ?_
    have hA4 := g4.hh _ _ hA' hAp
    have hF4 : S4.F A = none := (g4.old A (by rw [hA']; simp)).trans hF'
    have hl : acc.length ≤ ds.length := by rw [ra.length, el]; omega
    refine ⟨acc, hA4, by omega, ⟨S4.F, upd S4.H A (.lst (acc ++ [y])), S4.T⟩, acc ++ [y], es ++ [e], rfl, Gr.chg g2.ok (g'.trans g4) hA hF4 hA4 (fun ps z => by cases z) code_ne_lst, ?_, upd_same, hF4, (ra.mono g4.ff).snoc ry, by rw [List.length_append, el]; rfl, fun c' d' e' h1 h2 => ?_⟩
    · show S4.T ≤ _
      rw [Nat.add_mul, Nat.one_mul]
      omega
    · by_cases hcc : c' < es.length
      · rw [List.getElem?_append_left hcc] at h2
        exact hes c' d' e' h1 h2
      · have hce : c' = c := by
          have := (List.getElem?_eq_some_iff.mp h2).1
          rw [List.length_append, List.length_singleton] at this
          omega
        subst hce
        rw [List.getElem?_append_right (by omega), el, Nat.sub_self] at h2
        cases h2
        rw [hd] at h1
        cases h1
        exact hR
  · have e : c = ds.length := by omega
    subst e
    exact .inl ⟨s2 rfl, q A acc es S' (g2.trans g') (by omega) (g2.fresh hA) hA' hF' ra ⟨el, hes⟩⟩
theorem EvON.ed {P : List DL.D → Prop} (h : EvON K p te σ S n P) : EvN K p te σ S n (fun d => ∃ ds, d = .lst ds ∧ P ds) := fun S1 g hb Q q => h S1 g hb Q fun a vs ds S2 g2 t h0 h1 h2 r hp =>
  q (.ref a) _ ⟨upd S2.F a (.lst vs), S2.H, S2.T⟩ (g2.fix h0 h1 h2 (ok_ne g.ok h0)) t (.lst upd_same (r.mono (Ex.new h2))) ⟨ds, rfl, hp⟩
end
end DL
namespace DL
open PySem L2
open Evl (Ex)
variable {K : PySem.W.Frag} [LT K] {p : Option Addr} {S S0 S1 S2 S3 : Wd} {B : Hp} {σ σ' : L2.St} {te ta tb tc to : TE} {d d1 d2 d3 : D} {ds es : List D} {v : V} {m M n k : Nat} {P P1 P2 : D → Prop} {l l' : En} {i j : Nat} {t : Ty}

/-! ## promises -/
/-- a def that reads data and hands back new data -/
def spP (K : PySem.W.Frag) [LT K] (n : Nat) (pre : List D → Prop) (f : List D → D) : Sp := fun vs H Q _ => ∃ (F : Hp) (ds : List D), Ok K none ⟨F, H, 0⟩ ∧ Rps K F vs ds ∧ ds.length = n ∧ pre ds ∧ ∀ v F' H', Gr K none ⟨F, H, 0⟩ ⟨F', H', 0⟩ → Rp K F' v (f ds) → Q v H'
/-- a def that draws: its first argument is the pen, at most N draws -/
def spN (K : PySem.W.Frag) [LT K] (n N : Nat) (pre : List D → Prop) (post : List D → D → Prop) : Sp := fun vs H Q _ => ∃ (S : Wd) (a : Addr) (ws : List V) (ds : List D), vs = .ref a :: ws ∧ S.H = H ∧ Ok K (some a) S ∧ Rps K S.F ws ds ∧ ds.length = n ∧ pre ds ∧ S.T + N ≤ 1000000000 ∧
  ∀ v d S', Gr K (some a) S S' → S'.T ≤ S.T + N → Rp K S'.F v d → post ds d → Q v S'.H
theorem spP_len {pre : List D → Prop} {f : List D → D} {vs : List V} {H : Hp} {Q : VK} {E : XK} (h : spP K n pre f vs H Q E) : vs.length = n := by
  obtain ⟨F, ds, _, r, hl, _⟩ := h
  rw [r.length, hl]
theorem spN_len {N : Nat} {pre : List D → Prop} {post : List D → D → Prop} {vs : List V} {H : Hp} {Q : VK} {E : XK} (h : spN K n N pre post vs H Q E) : vs.length = n + 1 := by
  obtain ⟨S, a, ws, ds, rfl, _, _, r, hl, _⟩ := h
  rw [List.length_cons, r.length, hl]
/-- the slots at the entry -/
def ents : Nat → List D → En
  | _, [] => []
  | k, d :: ds => (k, .dat d) :: ents (k + 1) ds
theorem ents_mem : ∀ {ds : List D} {k : Nat} {q : Nat × Ty}, q ∈ ents k ds → ∃ (c : Nat) (d : D), q = (k + c, .dat d) ∧ ds[c]? = some d
  | d :: ds, k, q, h => by
    rcases List.mem_cons.mp h with rfl | h
    · exact ⟨0, d, rfl, rfl⟩
    · obtain ⟨c, e, rfl, h2⟩ := ents_mem h
      exact ⟨c + 1, e, by rw [Nat.add_assoc, Nat.add_comm 1 c], by simpa using h2⟩
theorem start_get {N : List Str} {vs : List V} {c : Nat} {x : V} (h : vs[c]? = some x) : (L2.start N vs)[c]? = some (some x) := by
  unfold L2.start
  have hc := (List.getElem?_eq_some_iff.mp h).1
  rw [List.getElem?_append_left (by simpa using hc), List.getElem?_map, h]
  rfl
theorem start_len {N : List Str} {vs : List V} (h : vs.length ≤ N.length) : (L2.start N vs).length = N.length := by
  unfold L2.start
  rw [List.length_append, List.length_map, List.length_replicate]
  omega
theorem sta_start {N : List Str} {vs : List V} (ok : Ok K p S) (r : Rps K S.F vs ds) (hl : vs.length ≤ N.length) (hM : S.T + M ≤ 1000000000) : Sta K p S S.F N.length M 0 (L2.start N vs) S (ents 0 ds) := by
  refine ⟨ok, Gr.refl ok, fun _ _ q => q, start_len hl, hM, Nat.le_refl _, fun q hq => ?_, fun a ha b hb ne oa => ?_⟩
  · obtain ⟨c, d, rfl, hc⟩ := ents_mem hq
    obtain ⟨x, hx, rx⟩ := r.get hc
    refine ⟨x, ?_, rx⟩
    rw [Nat.zero_add]
    exact start_get hx
  · obtain ⟨c, d, rfl, hc⟩ := ents_mem ha
    cases oa
theorem sta_startN {N : List Str} {a : Addr} {vs : List V} (ok : Ok K p S) (r : Rps K S.F vs ds) (hl : vs.length + 1 ≤ N.length) (hM : S.T + M ≤ 1000000000) : Sta K p S S.F N.length M 0 (L2.start N (.ref a :: vs)) S ((0, .val (.ref a)) :: ents 1 ds) := by
  refine ⟨ok, Gr.refl ok, fun _ _ q => q, start_len (by simpa using hl), hM, Nat.le_refl _, fun q hq => ?_, fun x hx b hb ne oa => ?_⟩
  · rcases List.mem_cons.mp hq with rfl | hq
    · exact ⟨.ref a, start_get rfl, rfl⟩
    · obtain ⟨c, d, rfl, hc⟩ := ents_mem hq
      obtain ⟨x, hx, rx⟩ := r.get hc
      refine ⟨x, ?_, rx⟩
      rw [Nat.add_comm 1 c]
      exact start_get (by simpa using hx)
  · rcases List.mem_cons.mp hx with rfl | hx
    · cases oa
    · obtain ⟨c, d, rfl, hc⟩ := ents_mem hx
      cases oa
/-- f(..) of such a def -/
theorem ed_call {pre : List D → Prop} {f : List D → D} {t : TA} {E : XK} (h : EvA K p t σ S ds) (hn : ds.length = n) (hp : pre ds) : EvD K p (tCall (spP K n pre f) [] E t) σ S (f ds) := fun S1 g Q q =>
  h S1 g _ fun vs S2 g2 t2 rs => by
    rw [List.append_nil]
    refine ⟨S2.F, ds, ⟨g2.ok.sub, fun a e => (by cases e), g2.ok.nt, g2.ok.tb⟩, rs, hn, hp, fun v F' H' g' r => ?_⟩
    have g3 : Gr K none S2 ⟨F', H', S2.T⟩ := ⟨g'.ff, fun b o q np n => g'.hh b o q np n, g'.al, g'.old, ⟨g'.ok.sub, fun a e => (by cases e), g'.ok.nt, g'.ok.tb⟩⟩
    exact q v ⟨F', H', S2.T⟩ (g2.trans (g3.up g2.ok rfl)) t2 r
/-- f(k = e, ..) -/
theorem ed_callK {pre : List D → Prop} {f : List D → D} {tk : TA} {E : XK} {gV : List V → List V → List V} {gD : List D → List D} (h : EvA K p tk σ S ds) (hg : ∀ F vs, Rps K F vs ds → Rps K F (gV [] vs) (gD ds)) (hn : (gD ds).length = n) (hp : pre (gD ds)) : EvD K p (tCallK (spP K n pre f) gV E tNil tk) σ S (f (gD ds)) := fun S1 g Q q =>
  h S1 g _ fun vs S2 g2 t2 rs => by
    refine ⟨S2.F, gD ds, ⟨g2.ok.sub, fun a e => (by cases e), g2.ok.nt, g2.ok.tb⟩, hg _ _ rs, hn, hp, fun v F' H' g' r => ?_⟩
    have g3 : Gr K none S2 ⟨F', H', S2.T⟩ := ⟨g'.ff, fun b o q np n => g'.hh b o q np n, g'.al, g'.old, ⟨g'.ok.sub, fun a e => (by cases e), g'.ok.nt, g'.ok.tb⟩⟩
    exact q v ⟨F', H', S2.T⟩ (g2.trans (g3.up g2.ok rfl)) t2 r
/-- f(pen, ..): the arguments behind the pen draw nothing -/
theorem en_call {a : Addr} {N : Nat} {pre : List D → Prop} {post : List D → D → Prop} {t : TA} {E : XK} (hv : EvV K (some a) te σ S (.ref a)) (h : EvA K (some a) t σ S ds) (hn : ds.length = n) (hp : pre ds) : EvN K (some a) (tCall (spN K n N pre post) [] E (tCons te t)) σ S N (post ds) := fun S1 g hb Q q =>
  hv S1 g _ fun S2 g2 t2 => h S2 (g.trans g2) _ fun vs S3 g3 t3 rs => by
    show spN K n N pre post ((.ref a :: vs) ++ []) S3.H Q E
    rw [List.append_nil]
    refine ⟨S3, a, vs, ds, rfl, rfl, g3.ok, rs, hn, hp, by omega, fun v d S' g' t' r k => ?_⟩
    exact q v d S' ((g2.trans g3).trans g') (by omega) r k
/-- f(pen, e): e draws too -/
theorem en_callN {a : Addr} {N : Nat} {pre : List D → Prop} {post : List D → D → Prop} {E : XK} (hv : EvV K (some a) te σ S (.ref a)) (h : EvN K (some a) ta σ S k P) (hp : ∀ d, P d → pre [d]) : EvN K (some a) (tCall (spN K 1 N pre post) [] E (tCons te (tCons ta tNil))) σ S (k + N) (fun e => ∃ d, P d ∧ post [d] e) := fun S1 g hb Q q =>
  hv S1 g _ fun S2 g2 t2 => h S2 (g.trans g2) (by omega) _ fun v d S3 g3 t3 r3 p3 => by
    show spN K 1 N pre post _ S3.H Q E
    refine ⟨S3, a, [v], [d], rfl, rfl, g3.ok, .one r3, rfl, hp d p3, by omega, fun v' d' S' g' t' r k => ?_⟩
    exact q v' d' S' ((g2.trans g3).trans g') (by omega) r ⟨d, p3, k⟩

/-! ### isinstance -/
def tyD : D → Option String
  | .non => some "NoneType"
  | .bl _ => some "bool"
  | .int _ => some "int"
  | .str _ => some "str"
  | .lst _ => some "list"
  | .tup _ => some "tuple"
  | .dic _ => some "dict"
  | _ => none
theorem tyX_rp {H : Hp} {T : String} (r : Rp K H v d) (h : tyD d = some T) : TyX K H v (.type T) := by
  cases r with
  | non => cases h; exact .base .non
  | bl b => cases h; exact .base (.bl b)
  | int b => cases h; exact .base (.int b)
  | str b => cases h; exact .base (.str b)
  | lst h1 => cases h; exact .base (.lst h1)
  | tup h1 =>
    cases h
    rcases h1 with (h1 | ⟨o, h1⟩) | ⟨o, its, n, hk, hc, _⟩
    · exact .base (.tup h1)
    · exact .fTuple h1
    · exact .kTuple hk hc
  | dic h1 => cases h; exact .base (.dK h1)
  | ins _ => cases h
  | val _ => cases h
/-- the answer of isinstance with a built-in class -/
def isiD (U : String) (d : D) : Option Bool := (tyD d).bind fun T => kitB T U
theorem ed_isi {U : String} {b : Bool} (h : EvH K p te σ S d) (hb : isiD U d = some b) : EvD K p (tCB (rIsi K) (tCons te (tCons (tC (.ty U)) tNil))) σ S (.bl b) := fun S1 g Q q => h S1 g _ fun x S2 g2 t2 r => by
  unfold isiD at hb
  cases e : tyD d with
  | none => rw [e] at hb; cases hb
  | some T =>
    rw [e] at hb
    exact ⟨x, .ty U, .type T, .type U, b, rfl, .ty U, tyX_rp (r.mono hide_ex) e, kit_ty hb, q _ S2 g2 t2 (.bl b)⟩
def isiD2 (U W : String) (d : D) : Option Bool := (isiD U d).bind fun a => if a then some true else isiD W d
theorem ed_isi2 {U W : String} {b : Bool} (h : EvH K p te σ S d) (hb : isiD2 U W d = some b) : EvD K p (tCB (rIsiT K) (tCons te (tCons (tTup (tCons (tC (.ty U)) (tCons (tC (.ty W)) tNil))) tNil))) σ S (.bl b) := fun S1 g Q q => h S1 g _ fun x S2 g2 t2 r => by
  unfold isiD2 isiD at hb
  cases e : tyD d with
  | none => rw [e] at hb; cases hb
  | some T =>
    rw [e] at hb
    refine ⟨by show 2 ≤ sizeLine; decide, fun A hA => ?_⟩
    have g3 : Gr K p S2 ⟨S2.F, upd S2.H A (.tup [.ty U, .ty W]), S2.T⟩ := Gr.newO g2.ok hA
    refine ⟨x, A, [.ty U, .ty W], .type T, [.type U, .type W], b, rfl, upd_same, .cons (.ty U) (.cons (.ty W) .nil), tyX_rp (r.mono (hide_ex.trans (Ex.new hA))) e, ?_, q _ _ (g2.trans g3) t2 (.bl b)⟩
    cases e1 : kitB T U with
    | none => simp [e1] at hb
    | some a =>
      refine kitAny_cons (kit_ty e1) (fun ha => ?_) (fun ha => ?_)
      · subst ha
        simp [e1] at hb
        refine kitAny_cons (kit_ty hb) (fun hb' => by rw [hb']; exact kitAny_nil) (fun hb' => hb')
      · subst ha
        simp [e1] at hb
        exact hb
def isStr : D → Option Bool
  | .str _ => some true
  | .ins _ _ => none
  | .val _ => none
  | _ => some false
def isRow : D → Option Bool
  | .lst _ => some true
  | .tup _ => some true
  | .ins _ _ => none
  | .val _ => none
  | _ => some false
def isTup : D → Option Bool
  | .tup _ => some true
  | .ins _ _ => none
  | .val _ => none
  | _ => some false
def isIntB : D → Option Bool
  | .int _ => some true
  | .bl _ => some true
  | .ins _ _ => none
  | .val _ => none
  | _ => some false
def isBl : D → Option Bool
  | .bl _ => some true
  | .ins _ _ => none
  | .val _ => none
  | _ => some false
theorem isi_str (d : D) : isiD "str" d = isStr d := by cases d <;> first | rfl | (unfold isiD tyD isStr; decide +kernel)
theorem isi_tup (d : D) : isiD "tuple" d = isTup d := by cases d <;> first | rfl | (unfold isiD tyD isTup; decide +kernel)
theorem isi_int (d : D) : isiD "int" d = isIntB d := by cases d <;> first | rfl | (unfold isiD tyD isIntB; decide +kernel)
theorem isi_bl (d : D) : isiD "bool" d = isBl d := by cases d <;> first | rfl | (unfold isiD tyD isBl; decide +kernel)
theorem isi_row (d : D) : isiD2 "list" "tuple" d = isRow d := by cases d <;> first | rfl | (unfold isiD2 isiD tyD isRow; decide +kernel)

/-! ### a call with keywords alone -/
section
variable {X : Cx} {CX : CXT} {f : Addr} {fd : FuncData} {ps ks : List Str} {sp : Sp} {E : XK} {x : Str} {pp pos : Pos} {kws : List Keyword} {tk : TA} {gs : List Value → List Value → List Value} {gV : List V → List V → List V}
theorem pe_callK0 (F : FnOk X.prog X.w X.K X.mg X.base CX k f fd ps sp) (hr : Room k X.A) (hg : Gl X x) (hm : X.mg x = some (.ref f)) (hk : PySem.W.keepIn X.K (.ref f) = true) (hb : KBinds X.K fd ps ks gs gV) (hx : Passes CX X E)
    (hkw : PK X kws tk) (hall : (backToKw pos (keywordEach kws X.env)).all (·.1.isSome) = true := by rfl) (hks : (backToKw pos (keywordEach kws X.env)).filterMap (·.1) = ks := by rfl)
    (hdb : (x == ("__debug__" : Str)) = false := by decide)
    (hpl : ((backTo pos (starEach [] X.env)).any (·.1) || (backToKw pos (keywordEach kws X.env)).any (·.1.isNone)) = false := by rfl) :
    PE X (.Call (.Name x pp) [] kws pos) (tCallK sp gV E tNil tk) := by
  refine ⟨fun pins s σ H Q I h => ?_⟩
  refine wpAny_Call_Name_kw (ld_glob I hg hm ?_ hdb)
  refine PySem.W.callWith_KW0 (h₀ := X.base) I.ok.mod.kin hk hall ?_ hpl
  refine thn (hkw.run pos pins s σ H _ I h) fun ws s2 hws => ?_
  obtain ⟨zs, H2, I2, rz, q2⟩ := hws
  refine ⟨I2.kIn, ?_⟩
  rw [hks]
  exact run_fnk F hr hb hx I2 .nil rz q2
end
end DL
namespace DL
open PySem L2
open Evl (Ex)
/-! ## operators that choose by the values -/
def rAddS : R2 := fun x y H Q => ∃ i j, x = .str i ∧ y = .str j ∧ i.length + j.length ≤ sizeLine ∧ Q (.str (i ++ j)) H
def rAddU (K : PySem.W.Frag) : R2 := fun x y H Q => rI0 (fun i j => .int (i + j)) x y H Q ∨ (rAddS x y H Q ∨ (rCat x y H Q ∨ rCatT K x y H Q))
def rMulU : R2 := fun x y H Q => rI IntMulOk (fun i j => .int (i * j)) x y H Q ∨ rRep x y H Q
/-- == of a list and an empty one -/
def rEqNil (K : PySem.W.Frag) : R2 := fun x y H Q => ∃ a b xs, x = .ref a ∧ y = .ref b ∧ SqL K H a xs ∧ SqL K H b [] ∧ Q (.bl xs.isEmpty) H
def rNeNil (K : PySem.W.Frag) : R2 := fun x y H Q => ∃ a b xs, x = .ref a ∧ y = .ref b ∧ SqL K H a xs ∧ SqL K H b [] ∧ Q (.bl (!xs.isEmpty)) H
def rEqU (K : PySem.W.Frag) : R2 := fun x y H Q => rEq x y H Q ∨ (rEqD K x y H Q ∨ rEqNil K x y H Q)
def rNeU (K : PySem.W.Frag) : R2 := fun x y H Q => rNe x y H Q ∨ (rNeD K x y H Q ∨ rNeNil K x y H Q)
def rSign : R2 := fun x y H Q => ∃ (c : Nat) (z : Str), x = .str ⟨#[c]⟩ ∧ y = .str z ∧ Q (.bl (decide (c ∈ z.cps.toList))) H
def rNSign : R2 := fun x y H Q => ∃ (c : Nat) (z : Str), x = .str ⟨#[c]⟩ ∧ y = .str z ∧ Q (.bl (!decide (c ∈ z.cps.toList))) H
def rInU (K : PySem.W.Frag) : R2 := fun x y H Q => rIn K false x y H Q ∨ rSign x y H Q
def rNinU (K : PySem.W.Frag) : R2 := fun x y H Q => rIn K true x y H Q ∨ rNSign x y H Q
def rIsN : R2 := fun x y H Q => y = .non ∧ Q (.bl (decide (x = .non))) H
def rNotN : R2 := fun x y H Q => y = .non ∧ Q (.bl (!decide (x = .non))) H
def CPowI (i n : Int) : Prop := 0 ≤ n ∧ (Builtin.Int.intBits i : Int) * n ≤ 2 ^ 27
def rLenU (K : PySem.W.Frag) : List V → Hp → VK → Prop := fun xs H Q => ∃ x n, xs = [x] ∧ LenV K x H n ∧ Q (.int n) H
def rAbs : List V → Hp → VK → Prop := fun xs H Q => ∃ i, xs = [.int i] ∧ Q (.int (if i < 0 then -i else i)) H
def rInt1 : List V → Hp → VK → Prop := fun xs H Q => (∃ i, xs = [.int i] ∧ Q (.int i) H) ∨ ∃ k, xs = [.bl k] ∧ Q (.int (if k then 1 else 0)) H
def rList (K : PySem.W.Frag) : List V → Hp → VK → Prop := fun xs H Q => ∃ p ys, xs = [.ref p] ∧ (SqL K H p ys ∨ SqT K H p ys) ∧ ∀ l, H l = none → Q (.ref l) (upd H l (.lst ys))
def rTuple (K : PySem.W.Frag) : List V → Hp → VK → Prop := fun xs H Q => ∃ p ys, xs = [.ref p] ∧ ((SqL K H p ys ∧ ∀ l, H l = none → Q (.ref l) (upd H l (.tup ys))) ∨ (SqT K H p ys ∧ Q (.ref p) H))
/-- the signs of a text as values -/
def signsV (s : Str) : List V := s.cps.toList.map fun c => .str ⟨#[c]⟩
def rListS : List V → Hp → VK → Prop := fun xs H Q => ∃ s, xs = [.str s] ∧ s.cps.size ≤ sizeLine ∧ ∀ l, H l = none → Q (.ref l) (upd H l (.lst (signsV s)))
/-- repr of nested data -/
def rRepr (K : PySem.W.Frag) : List V → Hp → VK → Prop := fun xs H Q => ∃ a d, xs = [.ref a] ∧ Dp K H (.ref a) d ∧ d.showable = true ∧ d.canLay0 = true ∧ d.depth ≤ 64 ∧ d.shown.length ≤ sizeLine ∧ Q (.str d.shown) H
section
variable {X : Cx}
theorem op_addU : OpR X (binaryOp .Add) (rAddU X.K) := op_add.or (op_add_str.or (op_cat.or op_catT))
theorem op_mulI : OpR X (binaryOp .Mult) (rI IntMulOk fun i j => .int (i * j)) := opI fun _ _ _ _ _ _ _ hc q => PyProof.Rows.mul_int q hc
theorem op_mulU : OpR X (binaryOp .Mult) rMulU := op_mulI.or op_rep
theorem op_eqNil (hu : X.A.units + 64 < cLine) : OpR X (compareOp .Eq) (rEqNil X.K) := by
  intro pins s σ H x y v u Q I rx ry h
  obtain ⟨a, b, xs, rfl, rfl, h1, h2, q⟩ := h
  cases (show v = Value.ref a from rx)
  cases (show u = Value.ref b from ry)
  obtain ⟨its, r, pl, hz⟩ := I.list h1
  obtain ⟨jts, r', pl', hz'⟩ := I.list h2
  cases r'
  cases r with
  | nil => exact PySem.SeqAt.eq_listAt (e := fun _ => true) pl.isList pl'.isList rfl (by omega) (fun j h1 _ => absurd h1 (Nat.not_lt_zero _)) ⟨.bl _, H, I, rfl, q⟩
  | cons _ _ => exact PySem.SeqAt.eq_list_lengthsAt pl.isList pl'.isList (by simp) (by omega) ⟨.bl _, H, I, rfl, q⟩
theorem op_neNil (hu : X.A.units + 64 < cLine) : OpR X (compareOp .NotEq) (rNeNil X.K) := by
  intro pins s σ H x y v u Q I rx ry h
  obtain ⟨a, b, xs, rfl, rfl, h1, h2, q⟩ := h
  cases (show v = Value.ref a from rx)
  cases (show u = Value.ref b from ry)
  obtain ⟨its, r, pl, hz⟩ := I.list h1
  obtain ⟨jts, r', pl', hz'⟩ := I.list h2
  cases r'
  cases r with
  | nil => exact PySem.SeqAt.RcNeAt.lists (e := fun _ => true) pl.isList pl'.isList rfl (by omega) (fun j h1 _ => absurd h1 (Nat.not_lt_zero _)) _ _ _ _ ⟨.bl _, H, I, rfl, q⟩
  | cons _ _ => exact PySem.SeqAt.RcNeAt.lists_lengths pl.isList pl'.isList (by simp) (by omega) _ _ _ _ ⟨.bl _, H, I, rfl, q⟩
theorem op_eqU (hu : X.A.units + 64 < cLine) : OpR X (compareOp .Eq) (rEqU X.K) := op_eq.or ((op_eqD hu).or (op_eqNil hu))
theorem op_neU (hu : X.A.units + 64 < cLine) : OpR X (compareOp .NotEq) (rNeU X.K) := op_ne.or ((op_neD hu).or (op_neNil hu))
theorem op_inU : OpR X (compareOp .In) (rInU X.K) := op_in_seq.or op_in_sign
theorem op_ninU : OpR X (compareOp .NotIn) (rNinU X.K) := op_notIn_seq.or op_notIn_sign
theorem op_powI : OpR X (binaryOp .Pow) (rI CPowI fun i j => .int (i ^ j.toNat)) := opI fun _ _ _ _ _ _ _ hc q => PyProof.Rows.pow_int hc.1 hc.2 q
theorem call_listS (hc : X.calm = true) : CallR X (.type "list") rListS := by
  intro pins s σ H xs us Q I r h
  obtain ⟨z, rfl, hz, q⟩ := h
  obtain ⟨u, rfl, t, rfl⟩ := vals1 r
  refine PySem.call_list_str (I.ok.hd hc) z t (fun h' tk acc' c' hk hl hi => ?_) hz
  have hf := I.hok.fresh (Nat.le_refl _)
  refine ⟨.ref s.heap.objs.size, upd H s.heap.objs.size (.lst (signsV z)), I.laid (t' := tk) hk (Nat.le_refl _) ?_, rfl, q _ hf⟩
  have hv : Vals (signsV z) acc'.toList := by
    refine L2.vals_of_at ?_ fun j x u hx hu => ?_
    · unfold signsV
      rw [List.length_map, Array.length_toList, Array.length_toList]
      exact hi.1.symm
    · unfold signsV at hx
      rw [List.getElem?_map, Array.getElem?_toList] at hx
      rw [Array.getElem?_toList] at hu
      obtain ⟨c, k, e1, e2⟩ := hi.2 j u hu
      rw [e1] at hx
      cases hx
      exact ⟨k, e2⟩
  exact ⟨by unfold signsV; rw [List.length_map, Array.length_toList]; exact hz, acc'.toList, c', hv, by simpa using hl⟩
theorem call_repr (hg : X.A.guards = some []) (hu : X.A.units + 66 < cLine) : CallR X (.builtin "repr") (rRepr X.K) := by
  intro pins s σ H xs us Q I r h
  obtain ⟨a, d, rfl, hd, h1, h2, h3, h4, q⟩ := h
  obtain ⟨u, rfl, rx⟩ := vals1 r
  obtain ⟨as, rd⟩ := Dp.reads I d _ u hd rx
  cases (show u = Value.ref a from rx)
  exact PySem.repr_of_reads' rd h1 (PySem.PyData.noDict_hsm (PySem.PyData.hasDict_of_canLay d h2)) hg (by omega) (fun _ _ e => e) (fun h' u tk hk => ⟨.str _, H, I.kept (t' := tk) hk, ⟨_, rfl⟩, q⟩) h4
end

/-! ### what they ask, over data -/
section
variable {K : PySem.W.Frag} [LT K] {p : Option Addr} {S : Wd} {σ : L2.St} {te ta tb : TE} {d d1 d2 : D} {ds es : List D} {r r' : R2}
theorem RD.inl (h : RD K p r d1 d2 d) : RD K p (fun x y H Q => r x y H Q ∨ r' x y H Q) d1 d2 d := fun S1 x y o rx ry Q q => .inl (h S1 x y o rx ry Q q)
theorem RD.inr (h : RD K p r' d1 d2 d) : RD K p (fun x y H Q => r x y H Q ∨ r' x y H Q) d1 d2 d := fun S1 x y o rx ry Q q => .inr (h S1 x y o rx ry Q q)
theorem rd_add {i j : Int} : RD K p (rAddU K) (.int i) (.int j) (.int (i + j)) := RD.inl rd_I0
theorem rd_addS {a b : Str} (hz : a.length + b.length ≤ sizeLine) : RD K p (rAddU K) (.str a) (.str b) (.str (a ++ b)) := RD.inr (RD.inl (rd_adds hz))
theorem rd_mul {i j : Int} (h : IntMulOk i j) : RD K p rMulU (.int i) (.int j) (.int (i * j)) := RD.inl (rd_I h)
theorem rd_eqU (h1 : d1.sh = true) (h2 : d2.sh = true) : RD K p (rEqU K) d1 d2 (.bl (eqD d1 d2)) := RD.inr (RD.inl (rd_eq h1 h2))
theorem rd_neU (h1 : d1.sh = true) (h2 : d2.sh = true) : RD K p (rNeU K) d1 d2 (.bl (!eqD d1 d2)) := RD.inr (RD.inl (rd_ne h1 h2))
theorem rd_eqNil : RD K p (rEqU K) (.lst ds) (.lst []) (.bl ds.isEmpty) := RD.inr (RD.inr (rd_of (fun _ => .bl _) fun S1 x y o rx ry Q q => by
  cases rx with
  | lst h1 r1 => cases ry with
    | lst h2 r2 => cases r2; exact ⟨_, _, _, rfl, rfl, .of (hide_ex _ _ h1), .of (hide_ex _ _ h2), by cases r1 <;> exact q⟩))
theorem rd_neNil : RD K p (rNeU K) (.lst ds) (.lst []) (.bl (!ds.isEmpty)) := RD.inr (RD.inr (rd_of (fun _ => .bl _) fun S1 x y o rx ry Q q => by
  cases rx with
  | lst h1 r1 => cases ry with
    | lst h2 r2 => cases r2; exact ⟨_, _, _, rfl, rfl, .of (hide_ex _ _ h1), .of (hide_ex _ _ h2), by cases r1 <;> exact q⟩))
theorem rd_eqUs {a b : Str} : RD K p (rEqU K) (.str a) (.str b) (.bl (decide (a = b))) := RD.inl rd_eqs
theorem rd_nes {a b : Str} : RD K p rNe (.str a) (.str b) (.bl (!decide (a = b))) := rd_of (fun _ => .bl _) fun S1 x y o rx ry Q q => by
  cases rx; cases ry
  have e : decide (V.str a = V.str b) = decide (a = b) := by
    by_cases h : a = b
    · subst h; simp
    · rw [decide_eq_false h, decide_eq_false (fun z => h (V.str.inj z))]
  exact ⟨rfl, by rw [e]; exact q⟩
theorem rd_neUs {a b : Str} : RD K p (rNeU K) (.str a) (.str b) (.bl (!decide (a = b))) := RD.inl rd_nes
theorem rd_inUT (h1 : flatD d1 = true) (h2 : ds.all flatD = true) : RD K p (rInU K) d1 (.tup ds) (.bl (inD d1 ds)) := RD.inl (rd_inT (neg := false) h1 h2)
theorem rd_inUL (h1 : flatD d1 = true) (h2 : ds.all flatD = true) : RD K p (rInU K) d1 (.lst ds) (.bl (inD d1 ds)) := RD.inl (rd_inL (neg := false) h1 h2)
theorem rd_ninUT (h1 : flatD d1 = true) (h2 : ds.all flatD = true) : RD K p (rNinU K) d1 (.tup ds) (.bl (!inD d1 ds)) := RD.inl (rd_inT (neg := true) h1 h2)
theorem rd_ninUL (h1 : flatD d1 = true) (h2 : ds.all flatD = true) : RD K p (rNinU K) d1 (.lst ds) (.bl (!inD d1 ds)) := RD.inl (rd_inL (neg := true) h1 h2)
theorem rd_inUS {c : Nat} {z : Str} : RD K p (rInU K) (.str ⟨#[c]⟩) (.str z) (.bl (decide (c ∈ z.cps.toList))) := RD.inr rd_sign
theorem rd_ninUS {c : Nat} {z : Str} : RD K p (rNinU K) (.str ⟨#[c]⟩) (.str z) (.bl (!decide (c ∈ z.cps.toList))) := RD.inr rd_nsign
theorem rd_isN {b : Bool} (h : isNon d1 = some b) : RD K p rIsN d1 .non (.bl b) := rd_isNon h
theorem rd_notN {b : Bool} (h : isNon d1 = some b) : RD K p rNotN d1 .non (.bl (!b)) := rd_notNon h
theorem eo_catU (ha : EvQ K p ta σ S true ds) (hb : EvQ K p tb σ S true es) (hz : ds.length + es.length ≤ sizeLine) : EvO K p (tOp (rAddU K) ta tb) σ S (ds ++ es) := fun S1 g Q q =>
  ha S1 g _ fun a xs S2 g2 t2 h2 r2 => hb S2 (g.trans g2) _ fun b ys S3 g3 t3 h3 r3 => by
    rw [if_pos rfl] at h2 h3
    have e1 := r2.length
    have e2 := r3.length
    refine .inr (.inr (.inl ⟨a, b, xs, ys, rfl, rfl, g3.hh _ _ h2.1 h2.2, h3.1, by omega, fun q' hq' => ?_⟩))
    exact q q' (xs ++ ys) ⟨S3.F, upd S3.H q' (.lst (xs ++ ys)), S3.T⟩ ((g2.trans g3).trans (Gr.newO g3.ok hq')) (by show S3.T ≤ _; omega) ((g2.trans g3).fresh hq') upd_same (g3.ok.freshF hq') ((r2.mono g3.ff).append r3)
theorem eo_repU {k : Int} (ha : EvQ K p ta σ S true ds) (hb : EvD K p tb σ S (.int k)) (hk : -(2 ^ 63) ≤ k ∧ k < 2 ^ 63) (hz : ds.length * k.toNat ≤ sizeLine) : EvO K p (tOp rMulU ta tb) σ S (List.replicate k.toNat ds).flatten := fun S1 g Q q =>
  ha S1 g _ fun a xs S2 g2 t2 h2 r2 => hb S2 (g.trans g2) _ fun b S3 g3 t3 r3 => by
    rw [if_pos rfl] at h2
    cases r3
    refine .inr ⟨a, k, xs, rfl, rfl, g3.hh _ _ h2.1 h2.2, hk.1, hk.2, by rw [r2.length]; exact hz, fun q' hq' => ?_⟩
    exact q q' _ ⟨S3.F, upd S3.H q' (.lst (List.replicate k.toNat xs).flatten), S3.T⟩ ((g2.trans g3).trans (Gr.newO g3.ok hq')) (by show S3.T ≤ _; omega) ((g2.trans g3).fresh hq') upd_same (g3.ok.freshF hq') (rps_rep (r2.mono g3.ff) _)
/-- list(text) -/
theorem rps_signs {F : Hp} (s : Str) : Rps K F (signsV s) (signs s) := by
  unfold signsV signs
  generalize s.cps.toList = l
  induction l with
  | nil => exact .nil
  | cons c r ih => exact .cons (.str _) ih
theorem eo_listS {s : Str} (h : EvD K p te σ S (.str s)) (hz : s.cps.size ≤ sizeLine) : EvO K p (tCB rListS (tCons te tNil)) σ S (signs s) := fun S1 g Q q => h S1 g _ fun v S2 g2 t2 r => by
  cases r
  exact ⟨s, rfl, hz, fun a ha => q a (signsV s) ⟨S2.F, upd S2.H a (.lst (signsV s)), S2.T⟩ (g2.trans (Gr.newO g2.ok ha)) t2 (g2.fresh ha) upd_same (g2.ok.freshF ha) (rps_signs s)⟩
/-- repr of a list or tuple -/
theorem rc_repr (hr : ∀ F v, Rp K F v d → ∃ a, v = .ref a) (h0 : d.pl = true) (h1 : d.py.showable = true) (h2 : d.py.canLay0 = true) (h3 : d.py.depth ≤ 64) (h4 : d.py.shown.length ≤ sizeLine) : RC K p (rRepr K) [d] (.str d.py.shown) := rc_of (fun _ => .str _) fun S1 vs o rs Q q => by
  cases rs with
  | cons h r =>
    cases r
    obtain ⟨a, rfl⟩ := hr _ _ h
    exact ⟨a, d.py, rfl, (h.mono hide_ex).dp h0, h1, h2, h3, h4, q⟩
theorem rc_reprL (h0 : (D.lst ds).pl = true) (h1 : (D.lst ds).py.showable = true) (h2 : (D.lst ds).py.canLay0 = true) (h3 : (D.lst ds).py.depth ≤ 64) (h4 : (D.lst ds).py.shown.length ≤ sizeLine) : RC K p (rRepr K) [.lst ds] (.str (D.lst ds).py.shown) :=
  rc_repr (fun F v h => by cases h; exact ⟨_, rfl⟩) h0 h1 h2 h3 h4
end
end DL
namespace DL
open PySem PySem.Spec PyProof.Rows L2
open Evl (Ex)
/-! ## promises of defs that may ask repr: no repr is running -/
structure GnOk (P : Program) (w : World) (K : PySem.W.Frag) (mg : Str → Option Value) (base : Heap) (CX : CXT) (k : Nat) (f : Addr) (fd : FuncData) (ps : List Str) (sp : Sp) : Prop where
  len : ∀ vs H Q E, sp vs H Q E → vs.length = ps.length
  go : ∀ (A : Around) (outer : List Env) (s : Shared) (H : Hp) (args : Args) (us : List Value) (vs : List V) (Q : VK) (E : XK), A.guards = some [] → Room k A → Env0 P w K mg base A outer s H → BindsTo s fd args (ps.zip us) → Vals vs us → sp vs H Q E →
    codeAny (model P w) A (.call (.ref f) args) (CR CX outer P w H s Q E) s
section
variable {P : Program} {w : World} {K : PySem.W.Frag} {mg : Str → Option Value} {base : Heap} {CX : CXT} {k j : Nat} {f : Addr} {fd : FuncData} {ps : List Str} {sp : Sp}
theorem GnOk.of (F : FnOk P w K mg base CX k f fd ps sp) : GnOk P w K mg base CX k f fd ps sp := ⟨F.len, fun A outer s H args us vs Q E _ hr e0 hb r h => F.run A outer s H args us vs Q E hr e0 hb r h⟩
/-- under a context whose repr guards are known, such a def is as any other -/
theorem run_gn {X : Cx} {pins : List (Addr × Obj)} {σ : L2.St} {H : Hp} {s : Shared} {Q : VK} {us : List Value} {vs : List V} {E : XK} (G : GnOk X.prog X.w X.K X.mg X.base CX k f fd ps sp) (hG : X.A.guards = some []) (hr : Room k X.A) (hb : Binds X.K fd ps []) (hx : Passes CX X E)
    (I : Inv X pins σ H s) (r : Vals vs us) (h : sp vs H Q E) : wpAny (model X.prog X.w) X.A (call (.ref f) us) (EP X pins σ Q) X.xe s := by
  have hl : us.length = ps.length := by rw [← r.length]; exact G.len _ _ _ _ h
  have hb2 := hb s us I.kIn (by rw [List.append_nil]; exact hl)
  rw [List.append_nil] at hb2
  refine wpAny_call (codeAny_mono (G.go X.A X.stack s H ⟨us, []⟩ us vs Q E hG hr I.env0 hb2 r h) fun r s' hq => ?_)
  cases r with
  | error e => exact hx pins σ H s e s' I hq
  | ok fl =>
    cases fl with
    | ret u => exact I.after hq
    | next => exact False.elim hq
    | brk => exact False.elim hq
    | cont => exact False.elim hq
theorem pe_callG {X : Cx} {E : XK} {x : Str} {p pos : Pos} {e : Expr} {es : List Expr} {t : TA} (G : GnOk X.prog X.w X.K X.mg X.base CX k f fd ps sp) (hG : X.A.guards = some []) (hr : Room k X.A) (hg : Gl X x) (hm : X.mg x = some (.ref f)) (hk : PySem.W.keepIn X.K (.ref f) = true)
    (hb : Binds X.K fd ps []) (hx : Passes CX X E) (ha : PA X (e :: es) t) (hdb : (x == ("__debug__" : Str)) = false := by decide) (he : starEach (e :: es) X.env = (false, eval e X.env) :: starEach es X.env := by rfl) (hpl : (backTo pos (starEach es X.env)).any (·.1) = false := by rfl) :
    PE X (.Call (.Name x p) (e :: es) [] pos) (tCall sp [] E t) := by
  refine ⟨fun pins s σ H Q I h => ?_⟩
  refine wpAny_Call_Name_kw (ld_glob I hg hm ?_ hdb)
  refine PySem.W.callWith_K (h₀ := X.base) I.ok.mod.kin hk (thn (ha.run pos pins s σ H _ I h) fun us s1 hvs => ?_) he hpl
  obtain ⟨vs, H1, I1, r, q⟩ := hvs
  refine ⟨I1.kIn, ?_⟩
  rw [List.append_nil] at q
  exact run_gn G hG hr hb hx I1 r q
/-- a def by its body, the guards known -/
theorem gn_of {name qual : Str} {params : Arguments} {body : List Stmt} {scope : Scope} {dV kV doc pm cdv ct oc : Value} {an od : Option Addr} {osl : Array (Option Value)} {N : List Str}
    (lk : K.lookup f = some ⟨oc, od, .func (PySem.W.fnOf name qual params body scope dV kV doc pm an cdv ct), osl⟩) (hcd : PySem.W.codeIn K cdv qual = true) (S : FnScope N ps scope) (len : ∀ vs H Q E, sp vs H Q E → vs.length = ps.length)
    (hbody : ∀ (A : Around) (outer : List Env) (s : Shared) (H : Hp) (vs : List V) (Q : VK) (E : XK), A.guards = some [] → Room k (A.deeper (envOfC qual scope s.heap.objs.size f cdv)) → sp vs H Q E →
      ∃ t, PSs (cxOf CX P w K mg base N qual scope f cdv A outer s H E) body t ∧ t { nx := fun _ H' => Q .non H', rt := Q } (L2.start N vs) H) :
    GnOk P w K mg base CX (k + 1) f (PySem.W.fnOf name qual params body scope dV kV doc pm an cdv ct) ps sp := by
  refine ⟨len, fun A outer s H args us vs Q E hG hr e0 hb r hsp => ?_⟩
  have nl := len _ _ _ _ hsp
  have kept : ∀ b o, base.get? b = some o → s.heap.get? b = some o := fun b o e => (e0.bs b o e).1
  have bound : ∀ y ∈ ps.zip us, scope.names.lookup y.1 = some .local ∨ (scope.names.lookup y.1 = some .cell ∧ ((cellsFrom (s.heap.objs.size + 1) scope.names []).lookup y.1).isSome = true) := by
    rintro ⟨y, v⟩ hy
    have hp := S.par y (List.of_mem_zip hy).1
    exact hp.imp id fun q => ⟨q, PySem.W.cellsFrom_some _ _ _ (.inl q)⟩
  have KX : K.In s.heap := e0.mod.kin.keeps kept
  refine codeAny_call_function hr.depth (KX _ _ lk) rfl S.co S.gen rfl (PySem.W.codeRec_of KX hcd) (hb _ _ _ _ ?_)
  refine wpAny_newFunctionEnv_cells S.kind bound fun env he s1 x => ?_
  cases he
  refine ⟨(e0.mod.nolimit.keeps kept).keeps x.toInCall.keep, codeAny_func ?_⟩
  obtain ⟨t, ht, hq⟩ := hbody A outer s H vs Q E hG (hr.deeper _) hsp
  have I0 : Inv (cxOf CX P w K mg base N qual scope f cdv A outer s H E) [] (L2.start N vs) H s1 := inv_start S hr.hd e0 nl r x
  refine wpAny_mono (ht.run [] s1 (L2.start N vs) H _ I0 hq) (fun fl s' hs => ?_) fun e s' hs => hs
  cases fl with
  | brk => obtain ⟨_, _, _, no⟩ := hs; exact no.elim
  | cont => obtain ⟨_, _, _, no⟩ := hs; exact no.elim
  | next =>
    obtain ⟨σ', H', J, q⟩ := hs
    exact ⟨.non, H', J.os, J.bare, J.base, J.hok, rfl, q⟩
  | ret u =>
    obtain ⟨v, σ', H', J, rv, q⟩ := hs
    exact ⟨v, H', J.os, J.bare, J.base, J.hok, rv, q⟩
/-- a def of the text that lets no exception out, the guards known -/
theorem gn_ok {x qual : Str} {st : Stmt} {N : List Str} (F : Fun K x qual st f fd) (S : FnScope N ps (defScope st)) (len : ∀ vs H Q E, sp vs H Q E → vs.length = ps.length)
    (hbody : ∀ (cdv : Value) (A : Around) (outer : List Env) (s : Shared) (H : Hp) (vs : List V) (Q : VK) (E : XK), A.guards = some [] → Room k (A.deeper (envOfC qual (defScope st) s.heap.objs.size f cdv)) → sp vs H Q E →
      ∃ t, PSs (cxOf CX0 P w K mg base N qual (defScope st) f cdv A outer s H E).nox (defBody st) t ∧ t { nx := fun _ H' => Q .non H', rt := Q } (L2.start N vs) H) : GnOk P w K mg base CX0 (k + 1) f fd ps sp := by
  obtain ⟨oc, od, kV, doc, pm, an, cdv, ct, osl, rfl, lk, hcd⟩ := F.ex
  refine gn_of lk hcd S len fun A outer s H vs Q E hG hr hsp => ?_
  obtain ⟨t, h, q⟩ := hbody cdv A outer s H vs Q E hG hr hsp
  exact ⟨t, h.nox, q⟩
end
end DL
namespace DL
open PySem PySem.Spec PyProof.Rows L2
/-- the heap at the law's entry: nothing is tracked but the script -/
structure Start (P : Program) (w : World) (K : PySem.W.Frag) (s : Shared) (a : Addr) (ns : List Int) (H : Hp) : Prop where
  only : Only H
  sq : SqL K H a (ns.map V.int)
  hok : HOk P w H s.heap
  one : ∀ b, H b ≠ none → b = a
  kno : H a ≠ none → K.lookup a = none
theorem start_ex {P : Program} {w : World} {K : PySem.W.Frag} {s : Shared} {a : Addr} {vs : List Value} {ns : List Int} (KX : K.In s.heap) (ha : s.heap.get? a = some { cls := .type "list", data := .seq vs.toArray }) (hi : IntsAre vs ns) (hl : ns.length ≤ sizeLine) :
    ∃ H, Start P w K s a ns H := by
  have rv := vals_ints hi
  cases hk : K.lookup a with
  | some o =>
    have e := KX a o hk
    rw [ha] at e
    cases e
    exact ⟨fun _ => none, fun _ => .inl rfl, .inr ⟨_, vs.toArray, _, hk, rfl, rfl, rfl, by rw [List.size_toArray, hi.length]; exact hl, by simpa using rv⟩, (fun b u z => nomatch (show (none : Option HO) = some u from z)), fun b z => absurd rfl z, fun z => absurd rfl z⟩
  | none =>
    refine ⟨fun b => if b = a then some (.frz { cls := .type "list", data := .seq vs.toArray } (.lst (ns.map V.int))) else none, fun b => ?_, .inl (.inr ⟨{ cls := .type "list", data := .seq vs.toArray }, if_pos rfl⟩), fun b u z => ?_, fun b z => ?_, fun _ => hk⟩
    · by_cases hb : b = a
      · exact .inr ⟨_, _, if_pos hb⟩
      · exact .inl (if_neg hb)
    · by_cases hb : b = a
      · cases hb
        have z' := (if_pos rfl).symm.trans z
        cases z'
        exact ⟨ha, by rw [List.length_map]; exact hl, vs, _, rv, ha⟩
      · cases (if_neg hb).symm.trans z
    · by_cases hb : b = a
      · exact hb
      · exact absurd (if_neg hb) z
theorem callG {P : Program} {w : World} {K : PySem.W.Frag} {mg mb : Str → Option Value} {k : Nat} {fa a : Addr} {fd : FuncData} {x : Str} {sp : Sp} {s₁ : Shared} {vs : List Value} {ns : List Int}
    (KX : K.In s₁.heap) (hns : s₁.heap.Ns mainGlobals mg) (hb : s₁.heap.Ns builtinsNs mb) (hbb : ∀ x : Str, x ≠ "__name__" → mb x = bootBuiltins x) (hlim : s₁.heap.NoLimit) (hg : s₁.gens = #[])
    (ha : s₁.heap.get? a = some { cls := .type "list", data := .seq vs.toArray }) (hi : IntsAre vs ns) (hl : ns.length ≤ sizeLine) (hr : Room k callerA)
    (F : ∀ base : Heap, K.In base → base.Ns mainGlobals mg → GnOk P w K mg base CX0 k fa fd [x] sp) (hbind : ∀ (s : Shared) (u : Value), BindsTo s fd ⟨[u], []⟩ [(x, u)])
    (hsp : ∀ H : Hp, Only H → SqL K H a (ns.map V.int) → sp [.ref a] H (fun v _ => v = .bl true) fun _ _ _ => False) :
    codeAny (model P w) callerA (.call (.ref fa) ⟨[.ref a], []⟩) (fun r s' => r = .ok (.ret (.bool true)) ∧ OldK s₁.heap s'.heap ∧ s'.os = s₁.os ∧ AllBare s'.gens) s₁ := by
  obtain ⟨H, Z⟩ := start_ex (P := P) (w := w) KX ha hi hl
  have tr : ∀ {b : Addr} {o : Obj}, s₁.heap.get? b = some o → H b ≠ none → o = { cls := .type "list", data := .seq vs.toArray } := fun {b o} e n => by
    have q := Z.one b n
    subst q
    rw [ha] at e
    cases e
    rfl
  have hide : ∀ {b : Addr} {o : Obj}, s₁.heap.get? b = some o → (H b ≠ none → False) → (hidT s₁.heap H).get? b = some o := fun {b o} e n => hidT_get e (by
    cases q : H b with
    | none => rfl
    | some u => exact (n (by rw [q]; simp)).elim)
  have ns1 : ∀ {b : Addr} {m : Str → Option Value}, s₁.heap.Ns b m → (hidT s₁.heap H).Ns b m := fun {b m} ⟨o, es, ep, e, d, r⟩ => ⟨o, es, ep, hide e (fun n => by rw [tr e n] at d; cases d), d, r⟩
  have kb : K.In (hidT s₁.heap H) := fun b o e => hide (KX b o e) fun n => by
    have q := Z.one b n
    subst q
    rw [Z.kno n] at e
    cases e
  have M : Mod K mg (hidT s₁.heap H) := ⟨kb, ns1 hns, ⟨mb, ns1 hb, hbb⟩, hlim.imp fun mc h => ⟨ns1 h.1, h.2⟩⟩
  have e0 : Env0 P w K mg (hidT s₁.heap H) callerA [] s₁ H := ⟨rfl, M, fun b o e => of_hidT e, Nat.le_of_eq (hidT_size _ _), trivial, (fun b hb => nomatch (show b ∈ ([] : List Addr) from hb)), Z.hok, .of_eq hg⟩
  refine codeAny_mono ((F _ kb (ns1 hns)).go callerA [] s₁ H ⟨[.ref a], []⟩ [.ref a] [.ref a] _ _ rfl hr e0 (hbind s₁ (.ref a)) (.cons rfl .nil) (hsp H Z.only Z.sq)) fun r s' h => ?_
  cases r with
  | error e => exact h.elim
  | ok fl =>
    cases fl with
    | next => exact h.elim
    | brk => exact h.elim
    | cont => exact h.elim
    | ret u =>
      obtain ⟨v, H', os, bare, un, hok', r', q⟩ := h
      cases (show v = .bl true from q)
      cases (show u = Value.bool true from r')
      refine ⟨rfl, OldK.of_keep fun b o e => ?_, os, bare⟩
      rcases Z.only b with z | ⟨ob, xs, z⟩
      · exact un.keep b o e z (fun z => nomatch (show b ∈ ([] : List Addr) from z)) (by simp)
      · have e1 := (Z.hok b _ z).1
        have e2 := (hok' b _ (un.frzs b ob _ z)).1
        rw [e] at e1
        cases e1
        exact e2
/-- the goal that k_head leaves, from the law's promise where the guards are known -/
theorem walk_ofG {l : PySem.W.OpenLaw} {n k : Nat} {q : Program} {loose : List Str} {XP : (Str → Option Value) → Heap → Prop} {YP : World → Heap → Prop} {d : DefRec} {K : Params → PySem.W.Frag} {sp : World → Sp} {x : Str}
    (hn : l.most = some n) (hn2 : n ≤ sizeLine) (hdf : d.params.defaults = []) (hr : Room k callerA) (hY : ∀ (w : World) (h : Heap), YP w h → (K w.params).In h)
    (F : ∀ (w : World) (mg : Str → Option Value) (fa : Addr) (h : Heap), (K w.params).In h → h.Ns mainGlobals mg → mg d.name = some (.ref fa) →
      ∃ fd : FuncData, (∀ (s : Shared) (u : Value), BindsTo s fd ⟨[u], []⟩ [(x, u)]) ∧ ∀ base : Heap, (K w.params).In base → base.Ns mainGlobals mg → GnOk l.prog w (K w.params) mg base CX0 k fa fd [x] (sp w))
    (hsp : ∀ (w : World) (H : Hp) (a : Addr) (ns : List Int), ns.length ≤ n → Only H → SqL (K w.params) H a (ns.map V.int) → sp w [.ref a] H (fun v _ => v = .bl true) fun _ _ _ => False) :
    PySem.W.WalkO q loose XP YP l.row.toRowW d [] (fun f vs => PySem.call f vs) := by
  refine Att.attach_call hn hdf fun w s₀ s₁ mg mb fa o pm cd doc a vs ns G Y ho hd hcd hmg hobj hints hlen hg => ?_
  have KX := hY w _ Y
  obtain ⟨fd, hb, hF⟩ := F w mg fa _ KX G.T.g hmg
  exact callG KX G.T.g G.T.b G.T.builtins G.T.nolimit hg hobj hints (Nat.le_trans hlen hn2) hr hF hb (fun H hO hS => hsp w H a ns hlen hO hS)
end DL
namespace DL
open PySem L2
open Evl (Ex)
/-! ## what the printed terms name -/
section
variable {X : Cx} [LT X.K] {x : Str} {pos : Pos}
theorem pe_gs {s : Str} (hg : Gl X x) (h : ∃ t, X.mg x = some (.str s t)) (hd : (x == ("__debug__" : Str)) = false := by decide) : PE X (.Name x pos) (tC (.str s)) := by
  obtain ⟨t, e⟩ := h
  exact pe_glob hg e ⟨t, rfl⟩ hd
theorem pe_gi {i : Int} (hg : Gl X x) (h : ∃ t, X.mg x = some (.int i t)) (hd : (x == ("__debug__" : Str)) = false := by decide) : PE X (.Name x pos) (tC (.int i)) := by
  obtain ⟨t, e⟩ := h
  exact pe_glob hg e ⟨t, rfl⟩ hd
theorem pe_gr {a : Addr} (hg : Gl X x) (h : X.mg x = some (.ref a)) (hd : (x == ("__debug__" : Str)) = false := by decide) : PE X (.Name x pos) (tC (.ref a)) := pe_glob hg h rfl hd
end
def KTup (K : PySem.W.Frag) (a : Addr) (ss : List Str) : Prop := ∃ (o : Obj) (its : Array Value) (n : Nat), K.lookup a = some o ∧ o.cls = .type "tuple" ∧ o.data = .seq its n ∧ its.size ≤ sizeLine ∧ Vals (ss.map V.str) its.toList
def strsB : List Value → List Str → Bool
  | [], [] => true
  | .str x _ :: r, s :: t => decide (x = s) && strsB r t
  | _, _ => false
def tupStr (o : Obj) (ss : List Str) : Bool := match o with
  | ⟨.type n, _, .seq its _, _⟩ => (n == "tuple") && decide (its.size ≤ 1000) && strsB its.toList ss
  | _ => false
theorem strsB_vals (us : List Value) (ss : List Str) (h : strsB us ss = true) : Vals (ss.map V.str) us := by
  fun_induction strsB us ss with
  | case1 => exact .nil
  | case2 x k r s t ih =>
    rw [Bool.and_eq_true] at h
    have e := of_decide_eq_true h.1
    subst e
    exact .cons ⟨k, rfl⟩ (ih h.2)
  | case3 => cases h
theorem KTup.of {K : PySem.W.Frag} {a : Addr} {o : Obj} {ss : List Str} (l : K.lookup a = some o) (h : tupStr o ss = true) : KTup K a ss := by
  obtain ⟨c, d, dt, sl⟩ := o
  unfold tupStr at h
  split at h
  · rename_i n _ its k _ e
    cases e
    rw [Bool.and_eq_true, Bool.and_eq_true] at h
    have e1 : n = "tuple" := by simpa using h.1.1
    subst e1
    exact ⟨_, its, k, l, rfl, rfl, Nat.le_trans (of_decide_eq_true h.1.2) (by decide), strsB_vals _ _ h.2⟩
  · cases h
theorem KTup.rp {K : PySem.W.Frag} {a : Addr} {ss : List Str} (h : KTup K a ss) : ∀ F, Rp K F (.ref a) (.tup (ss.map D.str)) := fun F => by
  obtain ⟨o, its, n, h1, h2, h3, h4, h5⟩ := h
  exact .tup (.inr ⟨o, its, n, h1, h2, h3, h4, h5⟩) (Rps.strs ss)
theorem hu66_of {A : Around} {k : Nat} (hr : Room k A) : A.units + 66 < cLine := Nat.lt_of_le_of_lt (by omega) hr.un
/-! keywords -/
theorem kbinds_mk {K : PySem.W.Frag} {x qual : Str} {st : Stmt} {f : Addr} {fd : FuncData} {ps ks : List Str} {g : List Value → List Value → List Value} {gV : List V → List V → List V} (F : Fun K x qual st f fd)
    (h : ∀ (kV doc pm : Value) (an : Option Addr) (cdv ct : Value) (us ws : List Value), (g us ws).length = ps.length → bindArgs (PySem.W.fnOf x qual (defArgs st) (defBody st) (defScope st) .none kV doc pm an cdv ct) ⟨us, ks.zip ws⟩ = pure (ps.zip (g us ws)))
    (hr : ∀ {vs : List V} {us : List Value} {zs : List V} {ws : List Value}, Vals vs us → Vals zs ws → Vals (gV vs zs) (g us ws)) : KBinds K fd ps ks g gV := by
  obtain ⟨oc, od, kV, doc, pm, an, cdv, ct, osl, rfl, lk, hcd⟩ := F.ex
  exact ⟨fun s us ws _ hl => .of_eq (h kV doc pm an cdv ct us ws hl), fun r q => hr r q⟩
theorem vals_1 {x : V} {us : List Value} (r : Vals [x] us) : ∃ u, us = [u] ∧ RelV x u := by cases r with | cons h t => cases t; exact ⟨_, rfl, h⟩
def rSplit : V → List V → Hp → VK → Prop := fun x xs H Q => ∃ a b, x = .str a ∧ xs = [.str b] ∧ (b.length == 0) = false ∧ a.length + 2 ≤ sizeLine ∧ rNewStrs (Txt.split a b) H Q
def rJoin (K : PySem.W.Frag) : V → List V → Hp → VK → Prop := fun x xs H Q => ∃ a p, ∃ ys : List Str, x = .str a ∧ xs = [.ref p] ∧ (SqL K H p (ys.map V.str) ∨ SqT K H p (ys.map V.str)) ∧ (ys.map (·.length)).sum + ys.length * a.length ≤ 16777216 ∧ Q (.str (Txt.join a ys)) H
def tTru (K : PySem.W.Frag) (ta : TE) : TT := fun σ H Q => ta σ H fun x H' => ∃ k, TruV K x H' k ∧ Q k H'
/-! a def's reading from its promise -/
section
variable {K : PySem.W.Frag} [LT K] {n N : Nat} {t : TS} {Ns : List Str} {vs : List V} {H : Hp} {Q : VK} {E : XK}
theorem fnP {pre : List D → Prop} {f : List D → D} (h : spP K n pre f vs H Q E) (hN : n ≤ Ns.length)
    (body : ∀ (S0 : Wd) (ds : List D) (σ : L2.St) (D : Ends), ds.length = n → pre ds → Sta K none S0 S0.F Ns.length 0 0 σ S0 (ents 0 ds) → (∀ v S', Gr K none S0 S' → S'.T ≤ S0.T + 0 → Rp K S'.F v (f ds) → D.rt v S'.H) → t D σ S0.H) :
    t { nx := fun _ H' => Q .non H', rt := Q } (L2.start Ns vs) H := by
  obtain ⟨F, ds, ok, r, hn, hp, k⟩ := h
  refine body ⟨F, H, 0⟩ ds _ _ hn hp (sta_start ok r (by rw [r.length, hn]; exact hN) (by show 0 + 0 ≤ 1000000000; decide)) fun v S' g ht rv => ?_
  refine k v S'.F S'.H ⟨g.ff, fun b o q np n => g.hh b o q np n, g.al, g.old, ⟨g.ok.sub, fun a e => (by cases e), g.ok.nt, g.ok.tb⟩⟩ rv
theorem fnP1 {pre : List D → Prop} {f : List D → D} (h : spP K 1 pre f vs H Q E) (hN : 1 ≤ Ns.length)
    (body : ∀ (S0 : Wd) (d : D) (σ : L2.St) (D : Ends), pre [d] → Sta K none S0 S0.F Ns.length 0 0 σ S0 [(0, .dat d)] → (∀ v S', Gr K none S0 S' → S'.T ≤ S0.T + 0 → Rp K S'.F v (f [d]) → D.rt v S'.H) → t D σ S0.H) :
    t { nx := fun _ H' => Q .non H', rt := Q } (L2.start Ns vs) H := fnP h hN fun S0 ds σ D hn hp st k => match ds, hn, hp, st, k with
  | [d], _, hp, st, k => body S0 d σ D hp st k
theorem fnP2 {pre : List D → Prop} {f : List D → D} (h : spP K 2 pre f vs H Q E) (hN : 2 ≤ Ns.length)
    (body : ∀ (S0 : Wd) (d e : D) (σ : L2.St) (D : Ends), pre [d, e] → Sta K none S0 S0.F Ns.length 0 0 σ S0 [(0, .dat d), (1, .dat e)] → (∀ v S', Gr K none S0 S' → S'.T ≤ S0.T + 0 → Rp K S'.F v (f [d, e]) → D.rt v S'.H) → t D σ S0.H) :
    t { nx := fun _ H' => Q .non H', rt := Q } (L2.start Ns vs) H := fnP h hN fun S0 ds σ D hn hp st k => match ds, hn, hp, st, k with
  | [d, e], _, hp, st, k => body S0 d e σ D hp st k
theorem fnP3 {pre : List D → Prop} {f : List D → D} (h : spP K 3 pre f vs H Q E) (hN : 3 ≤ Ns.length)
    (body : ∀ (S0 : Wd) (d e c : D) (σ : L2.St) (D : Ends), pre [d, e, c] → Sta K none S0 S0.F Ns.length 0 0 σ S0 [(0, .dat d), (1, .dat e), (2, .dat c)] → (∀ v S', Gr K none S0 S' → S'.T ≤ S0.T + 0 → Rp K S'.F v (f [d, e, c]) → D.rt v S'.H) → t D σ S0.H) :
    t { nx := fun _ H' => Q .non H', rt := Q } (L2.start Ns vs) H := fnP h hN fun S0 ds σ D hn hp st k => match ds, hn, hp, st, k with
  | [d, e, c], _, hp, st, k => body S0 d e c σ D hp st k
theorem fnN {pre : List D → Prop} {post : List D → D → Prop} (h : spN K n N pre post vs H Q E) (hN : n + 1 ≤ Ns.length)
    (body : ∀ (S0 : Wd) (a : Addr) (ds : List D) (σ : L2.St) (D : Ends), ds.length = n → pre ds → Sta K (some a) S0 S0.F Ns.length N 0 σ S0 ((0, .val (.ref a)) :: ents 1 ds) → (∀ v d S', post ds d → Gr K (some a) S0 S' → S'.T ≤ S0.T + N → Rp K S'.F v d → D.rt v S'.H) → t D σ S0.H) :
    t { nx := fun _ H' => Q .non H', rt := Q } (L2.start Ns vs) H := by
  obtain ⟨S, a, ws, ds, rfl, rfl, ok, r, hn, hp, hb, k⟩ := h
  exact body S a ds _ _ hn hp (sta_startN ok r (by rw [r.length, hn]; exact hN) hb) fun v d S' po g ht rv => k v d S' g ht rv po
end
end DL
namespace DL
open PySem L2
open Evl (Ex)
variable {K : PySem.W.Frag} [LT K] {p : Option Addr} {S S0 S1 S2 S3 : Wd} {B : Hp} {σ σ' : L2.St} {te ta tb tc to : TE} {d d1 d2 d3 : D} {ds es : List D} {v : V} {m M n k : Nat} {l l' : En} {i j : Nat}
theorem ed_chain {r r' : R2} {a b : Bool} (ha : EvH K p ta σ S d1) (hb : EvH K p tb σ S d2) (h1 : RD K p r d1 d2 (.bl a)) (hc : a = true → EvH K p tc σ S d3) (h2 : RD K p r' d2 d3 (.bl b)) : EvD K p (tChain r r' ta tb tc) σ S (.bl (a && b)) := fun S1 g Q q =>
  ha S1 g _ fun x S2 g2 t2 rx => hb S2 (g.trans g2) _ fun y S3 g3 t3 ry => h1 S3 x y g3.ok (rx.mono g3.hid) ry _ fun z S4 g4 t4 rz => by
    cases rz
    refine ⟨a, rfl, ?_⟩
    cases a with
    | false =>
      rw [if_neg Bool.false_ne_true]
      exact q _ S4 ((g2.trans g3).trans g4) (by omega) (.bl _)
    | true =>
      rw [if_pos rfl]
      refine hc rfl S4 (((g.trans g2).trans g3).trans g4) _ fun w S5 g5 t5 rw' => h2 S5 y w g5.ok (ry.mono (g4.hid.trans g5.hid)) rw' Q fun u S6 g6 t6 r6 => ?_
      exact q u S6 ((((g2.trans g3).trans g4).trans g5).trans g6) (by omega) r6
end DL
namespace DL
open PySem L2
open Evl (Ex)
/-! ## what is walked: a list or a tuple, by the value -/
def iRow (K : PySem.W.Frag) (tl : TE) : TI := fun σ H R => tl σ H fun x H1 => (∃ a, x = .ref a ∧ (∃ xs, SqL K H1 a xs) ∧ R (Itl K a) H1) ∨ ∃ a, x = .ref a ∧ (∃ xs, SqT K H1 a xs) ∧ R (Itt K a) H1
section
variable {X : Cx} {tg : Expr}
theorem pi_row {l : Expr} {tl : TE} (hl : PE X l tl) : PI X tg l (iRow X.K tl) := by
  refine ⟨fun pins s σ H R I h => ?_⟩
  refine thn (hl.run pins s σ H _ I h) fun v s1 ⟨x, H1, I1, r1, q1⟩ => ?_
  rcases q1 with ⟨a, e, ⟨xs, hq⟩, q⟩ | ⟨a, e, ⟨xs, hq⟩, q⟩
  · subst e
    cases r1
    obtain ⟨its, rv, p, hz⟩ := I1.list hq
    refine wpAny_pyIter_list p.isList ?_
    refine ⟨s1.heap.objs.size, [s1.heap.objs.size], _, _, H1, rfl, I1.kept (t' := s1.toks) fun b o e => Heap.get?_push_of_some _ e, turn_list a _, ⟨_, Heap.get?_push_size _ rfl, rfl, rfl⟩, fun b hb => ?_, q⟩
    have e : b = s1.heap.objs.size := by simpa using hb
    subst e
    exact I1.fpOk (Nat.le_refl _) (I1.hok.fresh (Nat.le_refl _))
  · subst e
    cases r1
    obtain ⟨its, rv, p, hz⟩ := I1.tuple hq
    refine wpAny_pyIter_tuple (show s1.heap.IsTuple a its.toArray from p) ?_
    refine ⟨s1.heap.objs.size, [s1.heap.objs.size], _, _, H1, rfl, I1.kept (t' := s1.toks) fun b o e => Heap.get?_push_of_some _ e, turn_tuple a _, ⟨_, Heap.get?_push_size _ rfl, rfl, rfl⟩, fun b hb => ?_, q⟩
    have e : b = s1.heap.objs.size := by simpa using hb
    subst e
    exact I1.fpOk (Nat.le_refl _) (I1.hok.fresh (Nat.le_refl _))
/-! ## len of whatever -/
def rLenA (K : PySem.W.Frag) : List V → Hp → VK → Prop := fun xs H Q => rLenU K xs H Q ∨ ∃ a kvs, xs = [V.ref a] ∧ H a = some (.dK kvs) ∧ Q (.int (kvs : List (Key × V)).length) H
theorem call_lenA : CallR X (.builtin "len") (rLenA X.K) := CallR.or call_len call_lenD
/-! ## in, not in: dicts too -/
def rInD : R2 := fun y x H Q => ∃ a o, x = .ref a ∧ DGet H a y o ∧ Q (.bl o.isSome) H
def rNinD : R2 := fun y x H Q => ∃ a o, x = .ref a ∧ DGet H a y o ∧ Q (.bl (!o.isSome)) H
theorem op_inD (hu : X.A.units + 1 < cLine) : OpR X (compareOp .In) rInD := by
  intro pins s σ H y x u v Q I ry rx h
  obtain ⟨a, ov, rfl, g, q⟩ := h
  obtain rfl : v = Value.ref a := rx
  exact d_in hu I g ry fun s3 I3 => ⟨.bl ov.isSome, H, I3, rfl, q⟩
theorem op_ninD (hu : X.A.units + 1 < cLine) : OpR X (compareOp .NotIn) rNinD := by
  intro pins s σ H y x u v Q I ry rx h
  obtain ⟨a, ov, rfl, g, q⟩ := h
  obtain rfl : v = Value.ref a := rx
  exact d_notIn hu I g ry fun s3 I3 => ⟨.bl (!ov.isSome), H, I3, rfl, q⟩
def rInV (K : PySem.W.Frag) : R2 := fun x y H Q => rInU K x y H Q ∨ rInD x y H Q
def rNinV (K : PySem.W.Frag) : R2 := fun x y H Q => rNinU K x y H Q ∨ rNinD x y H Q
theorem op_inV (hu : X.A.units + 1 < cLine) : OpR X (compareOp .In) (rInV X.K) := op_inU.or (op_inD hu)
theorem op_ninV (hu : X.A.units + 1 < cLine) : OpR X (compareOp .NotIn) (rNinV X.K) := op_ninU.or (op_ninD hu)
end
section
variable {K : PySem.W.Frag} [LT K] {p : Option Addr} {S S0 S1 S2 S3 : Wd} {B : Hp} {σ σ' : L2.St} {te ta tb tc to : TE} {d d1 d2 d3 : D} {ds es : List D} {v : V} {m M n k : Nat} {P P1 P2 : D → Prop} {l l' : En} {i j : Nat} {t : Ty} {G : Ends}
theorem es_rowL (h : EvD K p te σ S (.lst ds)) : EvS K p (iRow K te) σ S ds := fun S1 g R q => h S1 g _ fun v S2 g2 t2 r => by
  cases r with
  | @lst a vs _ h1 r2 =>
  have there : ∀ S' : Wd, Ex S2.F S'.F → Ok K p S' → SqL K S'.H a vs := fun S' e o => .of (o.sub _ _ (e _ _ h1))
  refine .inl ⟨a, rfl, ⟨vs, there S2 (fun _ _ q => q) g2.ok⟩, q _ S2 g2 t2 fun S' e o c => ⟨fun hc => ?_, fun hc => ?_⟩⟩
  · obtain ⟨x, hx, rx⟩ := r2.get (List.getElem?_eq_getElem hc)
    refine ⟨⟨vs, x, there S' e o, hx⟩, fun y H' hy => ?_⟩
    obtain ⟨e2, hy⟩ := hy
    have e3 := hy vs (there S' e o)
    rw [hx] at e3
    cases e3
    exact ⟨e2, _, List.getElem?_eq_getElem hc, rx.mono e⟩
  · exact ⟨vs, there S' e o, by rw [r2.length]; omega⟩
theorem es_rowT (h : EvD K p te σ S (.tup ds)) : EvS K p (iRow K te) σ S ds := fun S1 g R q => h S1 g _ fun v S2 g2 t2 r => by
  cases r with
  | @tup a vs _ h1 r2 =>
  have there : ∀ S' : Wd, Ex S2.F S'.F → Ok K p S' → SqT K S'.H a vs := fun S' e o => Evl.ex_t (e.trans o.sub) h1
  refine .inr ⟨a, rfl, ⟨vs, there S2 (fun _ _ q => q) g2.ok⟩, q _ S2 g2 t2 fun S' e o c => ⟨fun hc => ?_, fun hc => ?_⟩⟩
  · obtain ⟨x, hx, rx⟩ := r2.get (List.getElem?_eq_getElem hc)
    refine ⟨⟨vs, x, there S' e o, hx⟩, fun y H' hy => ?_⟩
    obtain ⟨e2, hy⟩ := hy
    have e3 := hy vs (there S' e o)
    rw [hx] at e3
    cases e3
    exact ⟨e2, _, List.getElem?_eq_getElem hc, rx.mono e⟩
  · exact ⟨vs, there S' e o, by rw [r2.length]; omega⟩
/-- the items of a row -/
def rowD : D → Option (List D)
  | .lst ds => some ds
  | .tup ds => some ds
  | _ => none
theorem es_row (h : EvD K p te σ S d) (hd : rowD d = some ds) : EvS K p (iRow K te) σ S ds := by
  cases d with
  | lst xs => cases hd; exact es_rowL h
  | tup xs => cases hd; exact es_rowT h
  | _ => cases hd
theorem RC.inl {r r' : List V → Hp → VK → Prop} (h : RC K p r ds d) : RC K p (fun xs H Q => r xs H Q ∨ r' xs H Q) ds d := fun S1 vs o rs Q q => .inl (h S1 vs o rs Q q)
theorem RC.inr {r r' : List V → Hp → VK → Prop} (h : RC K p r' ds d) : RC K p (fun xs H Q => r xs H Q ∨ r' xs H Q) ds d := fun S1 vs o rs Q q => .inr (h S1 vs o rs Q q)
theorem rl_L (hz : ds.length ≤ sizeLine := by decide) : RC K p (rLenA K) [.lst ds] (.int (ds.length : Int)) := RC.inl (rc_lenL hz)
theorem rl_T : RC K p (rLenA K) [.tup ds] (.int (ds.length : Int)) := RC.inl rc_lenT
theorem rl_S {s : Str} (hz : s.length ≤ sizeLine) : RC K p (rLenA K) [.str s] (.int (s.length : Int)) := RC.inl (rc_lenS hz)
theorem rl_row (hd : rowD d = some ds) (hz : ds.length ≤ sizeLine) : RC K p (rLenA K) [d] (.int (ds.length : Int)) := by
  cases d with
  | lst xs => cases hd; exact rl_L hz
  | tup xs => cases hd; exact rl_T
  | _ => cases hd
theorem rl_D {kds : List (Key × D)} : RC K p (rLenA K) [.dic kds] (.int (kds.length : Int)) := RC.inr (rc_of (fun _ => .int _) fun S1 vs o rs Q q => by
  cases rs with
  | cons h r =>
    cases r
    cases h with
    | @dic a kvs _ h1 h2 h3 =>
      have e : kvs.length = kds.length := by have := congrArg List.length h2; simpa using this
      exact ⟨a, kvs, rfl, hide_ex _ _ h1, by rw [e]; exact q⟩)
theorem ed_len (h : EvH K p te σ S d) (hr : RC K p (rLenA K) [d] d2) : EvD K p (tCB (rLenA K) (tCons te tNil)) σ S d2 := ed_cb (eh_cons h eh_nil) hr
/-! ## membership -/
theorem rd_inT2 (h1 : flatD d1 = true) (h2 : ds.all flatD = true) : RD K p (rInV K) d1 (.tup ds) (.bl (inD d1 ds)) := RD.inl (rd_inUT h1 h2)
theorem rd_inL2 (h1 : flatD d1 = true) (h2 : ds.all flatD = true) : RD K p (rInV K) d1 (.lst ds) (.bl (inD d1 ds)) := RD.inl (rd_inUL h1 h2)
theorem rd_inS2 {c : Nat} {z : Str} : RD K p (rInV K) (.str ⟨#[c]⟩) (.str z) (.bl (decide (c ∈ z.cps.toList))) := RD.inl rd_inUS
theorem rd_ninT2 (h1 : flatD d1 = true) (h2 : ds.all flatD = true) : RD K p (rNinV K) d1 (.tup ds) (.bl (!inD d1 ds)) := RD.inl (rd_ninUT h1 h2)
theorem rd_ninL2 (h1 : flatD d1 = true) (h2 : ds.all flatD = true) : RD K p (rNinV K) d1 (.lst ds) (.bl (!inD d1 ds)) := RD.inl (rd_ninUL h1 h2)
theorem rd_ninS2 {c : Nat} {z : Str} : RD K p (rNinV K) (.str ⟨#[c]⟩) (.str z) (.bl (!decide (c ∈ z.cps.toList))) := RD.inl rd_ninUS
def kD : Key → D
  | .inl i => .int i
  | .inr x => .str x
theorem kD_kV {F : Hp} {x : V} {k : Key} (h : Rp K F x (kD k)) : x = kV k := by
  cases k with
  | inl i => cases h; rfl
  | inr i => cases h; rfl
theorem rp_kV {F : Hp} (k : Key) : Rp K F (kV k) (kD k) := by
  cases k with
  | inl i => exact .int i
  | inr i => exact .str i
theorem valV_some {α : Type} {kvs : List (Key × V)} {kds : List (Key × α)} (h : kvs.map (·.1) = kds.map (·.1)) (k : Key) : (valV kvs k).isSome = (kds.map (·.1)).any (fun z => decide (z = k)) := by
  rw [← h]
  unfold valV
  rw [Option.isSome_map, List.any_map]
  induction kvs generalizing kds with
  | nil => rfl
  | cons q r ih =>
    rw [List.find?_cons, List.any_cons]
    by_cases e : q.1 = k
    · simp [e]
    · simp only [e, decide_false, Function.comp, Bool.false_or]
      cases kds with
      | nil => cases h
      | cons q2 r2 => exact ih (kds := r2) (by simpa using congrArg List.tail h)
theorem rd_inD2 {k : Key} {kds : List (Key × D)} : RD K p (rInV K) (kD k) (.dic kds) (.bl ((kds.map (·.1)).any fun z => decide (z = k))) := RD.inr (rd_of (fun _ => .bl _) fun S1 x y o rx ry Q q => by
  have ex := kD_kV rx
  subst ex
  cases ry with
  | @dic a kvs _ h1 h2 h3 => exact ⟨a, _, rfl, .k (hide_ex _ _ h1), by rw [valV_some h2]; exact q⟩)
theorem rd_ninD2 {k : Key} {kds : List (Key × D)} : RD K p (rNinV K) (kD k) (.dic kds) (.bl (!(kds.map (·.1)).any fun z => decide (z = k))) := RD.inr (rd_of (fun _ => .bl _) fun S1 x y o rx ry Q q => by
  have ex := kD_kV rx
  subst ex
  cases ry with
  | @dic a kvs _ h1 h2 h3 => exact ⟨a, _, rfl, .k (hide_ex _ _ h1), by rw [valV_some h2]; exact q⟩)
/-! ## logic, short -/
theorem et_orT {t u : TT} (h1 : EvT K p t σ S true) : EvT K p (tOr t u) σ S true := EvT.is (et_or (b := true) h1 fun z => by cases z) rfl
theorem et_andF {t u : TT} (h1 : EvT K p t σ S false) : EvT K p (tAnd t u) σ S false := EvT.is (et_and (b := true) h1 fun z => by cases z) rfl
theorem ed_orT (h1 : EvD K p ta σ S (.bl true)) : EvD K p (tOrV ta tb) σ S (.bl true) := EvD.is (ed_or (b := true) h1 fun z => by cases z) rfl
theorem ed_andF (h1 : EvD K p ta σ S (.bl false)) : EvD K p (tAndV ta tb) σ S (.bl false) := EvD.is (ed_and (b := true) h1 fun z => by cases z) rfl
theorem ed_neg {z : Int} (h : EvD K p te σ S (.int z)) : EvD K p (tUn (rU fun i => .int (-i)) te) σ S (.int (-z)) := fun S1 g Q q => h S1 g _ fun v S2 g2 t2 r => by
  cases r
  exact ⟨z, rfl, q _ S2 g2 t2 (.int _)⟩
/-! ## items, slices -/
theorem ixN_get {α : Type} {xs : List α} {i : Int} {x : α} (h : atI xs i = some x) : ∃ c, ixN xs.length i = some c ∧ xs[c]? = some x := by
  unfold atI at h
  exact Option.bind_eq_some_iff.mp h
theorem ed_ix {b : Bool} {z : Int} (ha : EvQ K p ta σ S b ds) (hb : EvD K p tb σ S (.int z)) (hd : atI ds z = some d) : EvD K p (tOp (rIx K) ta tb) σ S d := fun S1 g Q q =>
  ha S1 g _ fun a xs S2 g2 t2 h2 r2 => hb S2 (g.trans g2) _ fun y S3 g3 t3 r3 => by
    cases r3
    obtain ⟨c, h4, h5⟩ := ixN_get hd
    obtain ⟨x, hx, rx⟩ := r2.get h5
    have ex : atI xs z = some x := by unfold atI; rw [r2.length, h4]; exact hx
    cases b with
    | true =>
      rw [if_pos rfl] at h2
      exact .inl ⟨a, xs, z, x, rfl, rfl, .of (g3.hh _ _ h2.1 h2.2), ex, q x S3 (g2.trans g3) (by omega) (rx.mono g3.ff)⟩
    | false =>
      rw [if_neg Bool.false_ne_true] at h2
      exact .inr (.inl ⟨a, xs, z, x, rfl, rfl, Evl.ex_t (g3.ff.trans g3.ok.sub) h2, ex, q x S3 (g2.trans g3) (by omega) (rx.mono g3.ff)⟩)
theorem ed_ixS {z : Int} {s : Str} {c : Nat} (ha : EvD K p ta σ S (.str s)) (hb : EvD K p tb σ S (.int z)) (hz : s.length ≤ sizeLine) (hd : atI s.cps.toList z = some c) : EvD K p (tOp (rIx K) ta tb) σ S (.str ⟨#[c]⟩) := fun S1 g Q q =>
  ha S1 g _ fun a S2 g2 t2 r2 => hb S2 (g.trans g2) _ fun y S3 g3 t3 r3 => by
    cases r2; cases r3
    exact .inr (.inr ⟨s, z, c, rfl, rfl, hz, hd, q _ S3 (g2.trans g3) (by omega) (.str _)⟩)
def cutL {α : Type} (xs : List α) (lo hi : Option Int) : List α := (xs.drop (HT.sIx xs.length 0 lo)).take (HT.sIx xs.length xs.length hi - HT.sIx xs.length 0 lo)
theorem Rps.cut {F : Hp} {vs : List V} (r : Rps K F vs ds) (lo hi : Option Int) : Rps K F (cutV vs lo hi) (cutL ds lo hi) := by
  unfold cutV cutL
  rw [r.length]
  exact (r.drop _).take _
/-- a slice's bound -/
def EvB (K : PySem.W.Frag) [LT K] (p : Option Addr) (tt : TO) (σ : L2.St) (S : Wd) (z : Option Int) : Prop := ∀ S1, Gr K p S S1 → ∀ Q : Option Int → Hp → Prop, (∀ S2, Gr K p S1 S2 → S2.T ≤ S1.T → Q z S2.H) → tt σ S1.H Q
theorem eb_no : EvB K p tNoPart σ S none := fun S1 g Q q => q S1 (Gr.refl g.ok) (Nat.le_refl _)
theorem eb_int {z : Int} (h : EvD K p te σ S (.int z)) : EvB K p (tPart te) σ S (some z) := fun S1 g Q q => h S1 g _ fun v S2 g2 t2 r => by cases r; exact ⟨z, rfl, q S2 g2 t2⟩
theorem eo_sl {tl th : TO} {lo hi : Option Int} (ha : EvQ K p ta σ S true ds) (hl : EvB K p tl σ S lo) (hh : EvB K p th σ S hi) : EvO K p (tSl (rSlL K) ta tl th) σ S (cutL ds lo hi) := fun S1 g Q q =>
  ha S1 g _ fun a xs S2 g2 t2 h2 r2 => hl S2 (g.trans g2) _ fun S3 g3 t3 => hh S3 ((g.trans g2).trans g3) _ fun S4 g4 t4 => by
    rw [if_pos rfl] at h2
    refine ⟨a, xs, rfl, .of (g4.hh _ _ (g3.hh _ _ h2.1 h2.2) h2.2), fun q' hq' => ?_⟩
    exact q q' (cutV xs lo hi) ⟨S4.F, upd S4.H q' (.lst (cutV xs lo hi)), S4.T⟩ (((g2.trans g3).trans g4).trans (Gr.newO g4.ok hq')) (by show S4.T ≤ _; omega) (((g2.trans g3).trans g4).fresh hq') upd_same (g4.ok.freshF hq') (((r2.mono g3.ff).mono g4.ff).cut lo hi)
/-! ## texts split and joined -/
theorem eo_split {a b : Str} (ha : EvD K p ta σ S (.str a)) (hb : EvD K p tb σ S (.str b)) (h1 : (b.length == 0) = false) (h2 : a.length + 2 ≤ sizeLine) : EvO K p (tM1 rSplit ta tb) σ S ((Txt.split a b).map D.str) := fun S1 g Q q =>
  ha S1 g _ fun x S2 g2 t2 r2 => by
    cases r2
    refine ⟨⟨a, rfl⟩, hb S2 (g.trans g2) _ fun y S3 g3 t3 r3 => ?_⟩
    cases r3
    refine ⟨a, b, rfl, rfl, h1, h2, fun q' hq' => ?_⟩
    exact q q' _ ⟨S3.F, upd S3.H q' (.lst ((Txt.split a b).map V.str)), S3.T⟩ ((g2.trans g3).trans (Gr.newO g3.ok hq')) (by show S3.T ≤ _; omega) ((g2.trans g3).fresh hq') upd_same (g3.ok.freshF hq') (Rps.strs _)
theorem ed_join {b : Bool} {a : Str} {ys : List Str} (ha : EvD K p ta σ S (.str a)) (hb : EvQ K p tb σ S b (ys.map D.str)) (hz : (ys.map (·.length)).sum + ys.length * a.length ≤ 16777216) : EvD K p (tM1 (rJoin K) ta tb) σ S (.str (Txt.join a ys)) := fun S1 g Q q =>
  ha S1 g _ fun x S2 g2 t2 r2 => by
    cases r2
    refine ⟨⟨a, rfl⟩, hb S2 (g.trans g2) _ fun y xs S3 g3 t3 h3 r3 => ?_⟩
    have e := r3.strs_inv
    subst e
    refine ⟨a, y, ys, rfl, rfl, ?_, hz, q _ S3 (g2.trans g3) (by omega) (.str _)⟩
    cases b with
    | true => rw [if_pos rfl] at h3; exact .inl (.of h3.1)
    | false => rw [if_neg Bool.false_ne_true] at h3; exact .inr (Evl.ex_t g3.ok.sub h3)
/-! ## draws within arguments and displays -/
def EvAN (K : PySem.W.Frag) [LT K] (p : Option Addr) (ta : TA) (σ : L2.St) (S : Wd) (n : Nat) (P : List D → Prop) : Prop := ∀ S1, Gr K p S S1 → S1.T + n ≤ 1000000000 → ∀ Q : List V → Hp → Prop, (∀ vs ds S2, Gr K p S1 S2 → S2.T ≤ S1.T + n → Rps K S2.F vs ds → P ds → Q vs S2.H) → ta σ S1.H Q
theorem ean_nil : EvAN K p tNil σ S 0 (fun ds => ds = []) := fun S1 g _ Q q => q [] [] S1 (Gr.refl g.ok) (Nat.le_refl _) .nil rfl
theorem ean_cons {tr : TA} {PS : List D → Prop} (h : EvN K p te σ S n P) (hr : EvAN K p tr σ S k PS) : EvAN K p (tCons te tr) σ S (n + k) (fun es => ∃ d ds, es = d :: ds ∧ P d ∧ PS ds) := fun S1 g hb Q q =>
  h S1 g (by omega) _ fun x d S2 g2 t2 rx px => hr S2 (g.trans g2) (by omega) _ fun xs ds S3 g3 t3 rs ps => q (x :: xs) (d :: ds) S3 (g2.trans g3) (by omega) (.cons (rx.mono g3.ff) rs) ⟨d, ds, rfl, px, ps⟩
theorem EvA.toN {tr : TA} (h : EvA K p tr σ S ds) : EvAN K p tr σ S 0 (fun es => es = ds) := fun S1 g _ Q q => h S1 g Q fun vs S2 g2 t r => q vs ds S2 g2 t r rfl
theorem EvAN.le {tr : TA} {PS PS' : List D → Prop} (h : EvAN K p tr σ S n PS) (hn : n ≤ m) (hP : ∀ d, PS d → PS' d) : EvAN K p tr σ S m PS' := fun S1 g b Q q => h S1 g (by omega) Q fun v d S2 g2 t r k => q v d S2 g2 (by omega) r (hP d k)
theorem en_lst {tr : TA} {PS : List D → Prop} (h : EvAN K p tr σ S n PS) (hz : ∀ ds, PS ds → ds.length ≤ sizeLine) : EvN K p (tLst tr) σ S n (fun d => ∃ ds, d = .lst ds ∧ PS ds) := fun S1 g hb Q q =>
  h S1 g hb _ fun xs ds S2 g2 t2 rs ps => ⟨by rw [rs.length]; exact hz ds ps, fun a ha => q (.ref a) (.lst ds) ⟨upd S2.F a (.lst xs), upd S2.H a (.lst xs), S2.T⟩ (g2.trans (Gr.new g2.ok ha)) t2 (.lst upd_same (rs.mono (Ex.new (g2.ok.freshF ha)))) ⟨ds, rfl, ps⟩⟩
theorem en_tup {tr : TA} {PS : List D → Prop} (h : EvAN K p tr σ S n PS) (hz : ∀ ds, PS ds → ds.length ≤ sizeLine) : EvN K p (tTup tr) σ S n (fun d => ∃ ds, d = .tup ds ∧ PS ds) := fun S1 g hb Q q =>
  h S1 g hb _ fun xs ds S2 g2 t2 rs ps => ⟨by rw [rs.length]; exact hz ds ps, fun a ha => q (.ref a) (.tup ds) ⟨upd S2.F a (.tup xs), upd S2.H a (.tup xs), S2.T⟩ (g2.trans (Gr.new g2.ok ha)) t2 (.tup (.of upd_same) (rs.mono (Ex.new (g2.ok.freshF ha)))) ⟨ds, rfl, ps⟩⟩
/-- a draw, then something of data -/
theorem en_op1 {r : R2} {P' : D → Prop} (ha : EvN K p ta σ S n P) (hb : EvD K p tb σ S d2) (hr : ∀ d, P d → ∃ e, P' e ∧ RD K p r d d2 e) : EvN K p (tOp r ta tb) σ S n P' := fun S1 g hB Q q =>
  ha S1 g hB _ fun x d S2 g2 t2 rx px => hb S2 (g.trans g2) _ fun y S3 g3 t3 ry => by
    obtain ⟨e, pe, hr'⟩ := hr d px
    exact hr' S3 x y g3.ok ((rx.mono g3.ff).mono g3.ok.subh) (ry.mono g3.ok.subh) Q fun v S4 g4 t4 r4 => q v e S4 ((g2.trans g3).trans g4) (by omega) r4 pe
theorem en_op2 {r : R2} {P' : D → Prop} (ha : EvD K p ta σ S d1) (hb : EvN K p tb σ S n P) (hr : ∀ d, P d → ∃ e, P' e ∧ RD K p r d1 d e) : EvN K p (tOp r ta tb) σ S n P' := fun S1 g hB Q q =>
  ha S1 g _ fun x S2 g2 t2 rx => hb S2 (g.trans g2) (by omega) _ fun y d S3 g3 t3 ry px => by
    obtain ⟨e, pe, hr'⟩ := hr d px
    exact hr' S3 x y g3.ok ((rx.mono g3.ff).mono g3.ok.subh) (ry.mono g3.ok.subh) Q fun v S4 g4 t4 r4 => q v e S4 ((g2.trans g3).trans g4) (by omega) r4 pe
/-- f(pen, ..) whose arguments draw too -/
theorem en_callA {a : Addr} {nn N : Nat} {pre : List D → Prop} {post : List D → D → Prop} {t : TA} {E : XK} {PS : List D → Prop} (hv : EvV K (some a) te σ S (.ref a)) (h : EvAN K (some a) t σ S k PS) (hn : ∀ ds, PS ds → ds.length = nn ∧ pre ds) : EvN K (some a) (tCall (spN K nn N pre post) [] E (tCons te t)) σ S (k + N) (fun e => ∃ ds, PS ds ∧ post ds e) := fun S1 g hb Q q =>
  hv S1 g _ fun S2 g2 t2 => h S2 (g.trans g2) (by omega) _ fun vs ds S3 g3 t3 rs ps => by
    show spN K nn N pre post ((.ref a :: vs) ++ []) S3.H Q E
    rw [List.append_nil]
    refine ⟨S3, a, vs, ds, rfl, rfl, g3.ok, rs, (hn ds ps).1, (hn ds ps).2, by omega, fun v d S' g' t' r k => ?_⟩
    exact q v d S' ((g2.trans g3).trans g') (by omega) r ⟨ds, ps, k⟩
/-- if not (a draw that is true): goes on -/
theorem s_ifN {tu tw : TS} (h : Sta K p S0 B m M n σ S l) (he : EvN K p te σ S k (fun d => d = .bl true)) (hn : n + k ≤ M) (kk : ∀ S', Sta K p S0 B m M (n + k) σ S' l → tw G σ S'.H) : tIfS (tNot (tB te)) tu tw G σ S.H :=
  he S (Gr.refl h.ok) (by have := h.tb; have := h.tn; omega) _ fun v d S2 g2 t2 r e => by
    subst e
    cases r
    exact ⟨true, rfl, by
      show if (!true) = true then _ else _
      rw [if_neg (by decide)]
      exact kk S2 (h.grow g2 t2)⟩
theorem en_if {t : TT} {b : Bool} (h : EvT K p t σ S b) (h1 : b = true → EvN K p ta σ S n P) (h2 : b = false → EvN K p tb σ S n P) : EvN K p (tIf t ta tb) σ S n P := fun S1 g hB Q q => h S1 g _ fun S2 g2 t2 => by
  cases b with
  | true =>
    rw [if_pos rfl]
    exact h1 rfl S2 (g.trans g2) (by omega) Q fun v d S3 g3 t3 r3 p3 => q v d S3 (g2.trans g3) (by omega) r3 p3
  | false =>
    rw [if_neg Bool.false_ne_true]
    exact h2 rfl S2 (g.trans g2) (by omega) Q fun v d S3 g3 t3 r3 p3 => q v d S3 (g2.trans g3) (by omega) r3 p3
/-! ## x, y = e, f -/
/-- something that a slot may take -/
def EvX (K : PySem.W.Frag) [LT K] (p : Option Addr) (te : TE) (σ : L2.St) (S : Wd) (n : Nat) (P : Ty → Prop) : Prop := ∀ S1, Gr K p S S1 → S1.T + n ≤ 1000000000 → ∀ Q : VK, (∀ v t S2, Gr K p S1 S2 → S2.T ≤ S1.T + n → Ty.is K S1.H S2 v t → P t → Q v S2.H) → te σ S1.H Q
theorem EvD.x (h : EvD K p te σ S d) : EvX K p te σ S 0 (fun t => t = .dat d) := fun S1 g _ Q q => h S1 g Q fun v S2 g2 t r => q v (.dat d) S2 g2 t r rfl
theorem EvO.x (h : EvO K p te σ S ds) : EvX K p te σ S 0 (fun t => t = .own ds) := fun S1 g _ Q q => h S1 g Q fun a vs S2 g2 t h0 h1 h2 r => q (.ref a) (.own ds) S2 g2 t ⟨a, vs, rfl, h1, r, h2, h0⟩ rfl
theorem EvN.x (h : EvN K p te σ S n P) : EvX K p te σ S n (fun t => ∃ d, t = .dat d ∧ P d) := fun S1 g hb Q q => h S1 g hb Q fun v d S2 g2 t r pd => q v (.dat d) S2 g2 t r ⟨d, rfl, pd⟩
/-- what a value may be, seen from an earlier heap -/
theorem Ty.back {H0 H1 : Hp} {t : Ty} (hb : ∀ a, H1 a = none → H0 a = none) (h : Ty.is K H1 S v t) : Ty.is K H0 S v t := by
  cases t with
  | dat _ => exact h
  | val _ => exact h
  | own ds => obtain ⟨a, vs, e, h1, h2, h3, h4⟩ := h; exact ⟨a, vs, e, h1, h2, h3, hb a h4⟩
  | odc ds => obtain ⟨a, vs, e, h1, h2, h3, h5, h4⟩ := h; exact ⟨a, vs, e, h1, h2, h3, h5, hb a h4⟩
theorem Ty.ref_of {H1 : Hp} {t : Ty} (h : Ty.is K H1 S v t) (o : t.ow = true) : ∃ a, v = .ref a ∧ H1 a = none ∧ S.H a ≠ none := by
  cases t with
  | dat _ => cases o
  | val _ => cases o
  | own ds => obtain ⟨a, vs, e, h1, h2, h3, h4⟩ := h; exact ⟨a, e, h4, by rw [h1]; simp⟩
  | odc ds => obtain ⟨a, vs, e, h1, h2, h3, h5, h4⟩ := h; exact ⟨a, e, h4, by rw [h1]; simp⟩
/-- a value made behind the state at S is stored -/
theorem Sta.setX {H1 : Hp} (h : Sta K p S0 B m M n σ S l) (hi : i < m) (ht : Ty.is K H1 S v t) (hb : ∀ a, H1 a = none → S0.H a = none) (hs : ∀ q ∈ del i l, q.2.ow = true → ∀ a, σ[q.1]? = some (some (.ref a)) → H1 a ≠ none) : Sta K p S0 B m M n (σ.set i (some v)) S (put i t l) :=
  h.set hi (Ty.back hb ht) fun o q hq oq e => by
    obtain ⟨a, rfl, h1, _⟩ := Ty.ref_of ht o
    exact hs q hq oq a e h1
theorem Sta.alive (h : Sta K p S0 B m M n σ S l) {q : Nat × Ty} (hq : q ∈ l) (oq : q.2.ow = true) {a : Addr} (e : σ[q.1]? = some (some (.ref a))) : S.H a ≠ none := by
  obtain ⟨v, e2, r⟩ := h.has q hq
  rw [e2] at e
  cases e
  obtain ⟨b, e3, _, h3⟩ := Ty.ref_of r oq
  cases e3
  exact h3
theorem s_par {k2 : Nat} {P1 P2 : Ty → Prop} (h : Sta K p S0 B m M n σ S l) (h1 : EvX K p ta σ S k P1) (h2 : EvX K p tb σ S k2 P2) (hi : i < m) (hj : j < m) (hij : i ≠ j) (hn : n + (k + k2) ≤ M)
    (kk : ∀ t1 t2 σ' S', P1 t1 → P2 t2 → Sta K p S0 B m M (n + (k + k2)) σ' S' (put j t2 (put i t1 l)) → G.nx σ' S'.H) : tPar i j (tCons ta (tCons tb tNil)) G σ S.H :=
  h1 S (Gr.refl h.ok) (by have := h.tb; have := h.tn; omega) _ fun v t1 S2 g2 q2 r1 p1 => h2 S2 g2 (by have := h.tb; have := h.tn; omega) _ fun w t2 S3 g3 q3 r2 p2 => by
    have ht := h.tb
    have hn' := h.tn
    have H3 : Sta K p S0 B m M (n + (k + k2)) σ S3 l := h.grow (g2.trans g3) (by omega)
    refine ⟨v, w, rfl, kk t1 t2 _ S3 p1 p2 ?_⟩
    have f0 : ∀ a, S.H a = none → S0.H a = none := fun a e => h.g.fresh e
    have r1' : Ty.is K S.H S3 v t1 := Ty.grow (H0 := S.H) g2 h.ok g3 r1
    have A := H3.setX (t := t1) hi r1' f0 fun q hq oq a e => h.alive (del_mem hq).1 oq e
    refine A.setX (t := t2) hj r2 (fun a e => f0 a (g2.fresh e)) fun q hq oq a e => ?_
    obtain ⟨hq1, hq2⟩ := del_mem hq
    rcases List.mem_cons.mp hq1 with rfl | hq1
    · rw [List.getElem?_set_self (by rw [h.len]; exact hi)] at e
      cases e
      obtain ⟨b, e3, _, h3⟩ := Ty.ref_of r1 oq
      cases e3
      exact h3
    · have hq1' := del_mem hq1
      rw [List.getElem?_set_ne (Ne.symm hq1'.2)] at e
      exact g2.al a (h.alive hq1'.1 oq e)
/-- i = x.pop(), j = .. -/
theorem s_popPar (h : Sta K p S0 B m M n σ S l) {c : Nat} (hg : get l c = some (.own (ds ++ [d]))) (hi : i < m) (hj : j < m) (hij : i ≠ j) (hb : ∀ S', Sta K p S0 B m M n σ S' (put c (.own ds) l) → EvD K p tb σ S' d2)
    (kk : ∀ σ' S', Sta K p S0 B m M n σ' S' (put j (.dat d2) (put i (.dat d) (put c (.own ds) l))) → G.nx σ' S'.H) : tPar i j (tCons (tBM0 K "list" rPop (tVar c)) (tCons tb tNil)) G σ S.H := by
  obtain ⟨v, e, a, vs, rfl, h1, h2, h3, h4⟩ := h.has _ (get_mem hg)
  have el : vs.length = ds.length + 1 := by rw [h2.length, List.length_append, List.length_singleton]
  obtain ⟨x, ex, rx⟩ := h2.get (i := ds.length) (d := d) (by simp)
  refine ⟨_, e, .inl ⟨rfl, vs, .of h1⟩, a, vs, x, rfl, rfl, h1, by rw [el]; exact ex, ?_⟩
  have hd : Rps K S.F vs.dropLast ds := by
    have q := h2.dropLast
    rw [List.dropLast_concat] at q
    exact q
  have H2 := h.chg hg e h1 hd
  have e2 := hb ⟨S.F, upd S.H a (.lst vs.dropLast), S.T⟩ H2
  refine e2 _ (Gr.refl H2.ok) _ fun w S3 g3 t3 r3 => ⟨x, w, rfl, kk _ S3 ?_⟩
  have H3 := H2.grow0 g3 t3
  exact (H3.set hi (t := .dat d) (rx.mono g3.ff) fun z => by cases z).set hj (t := .dat d2) r3 fun z => by cases z
/-- i, j = x.pop(), the popped a pair -/
theorem s_popPair (h : Sta K p S0 B m M n σ S l) {c : Nat} (hg : get l c = some (.own (ds ++ [.tup [d1, d2]]))) (hi : i < m) (hj : j < m)
    (kk : ∀ σ' S', Sta K p S0 B m M n σ' S' (put j (.dat d2) (put i (.dat d1) (put c (.own ds) l))) → G.nx σ' S'.H) : tAsg (tBM0 K "list" rPop (tVar c)) (gTup K 2 (gCons (gName i) (gCons (gName j) gNil))) G σ S.H := by
  obtain ⟨v, e, a, vs, rfl, h1, h2, h3, h4⟩ := h.has _ (get_mem hg)
  have el : vs.length = ds.length + 1 := by rw [h2.length, List.length_append, List.length_singleton]
  obtain ⟨x, ex, rx⟩ := h2.get (i := ds.length) (d := .tup [d1, d2]) (by simp)
  refine ⟨_, e, .inl ⟨rfl, vs, .of h1⟩, a, vs, x, rfl, rfl, h1, by rw [el]; exact ex, ?_⟩
  have hd : Rps K S.F vs.dropLast ds := by
    have q := h2.dropLast
    rw [List.dropLast_concat] at q
    exact q
  have H2 := h.chg hg e h1 hd
  cases rx with
  | @tup b us _ hb hr =>
    cases hr with
    | @cons x1 _ _ _ r1 hr =>
      cases hr with
      | @cons x2 _ _ _ r2 hr =>
        cases hr
        refine ⟨b, _, rfl, Evl.ex_t H2.ok.sub hb, rfl, ?_⟩
        refine ⟨_, _, rfl, _, _, rfl, rfl, ?_⟩
        exact kk _ ⟨S.F, upd S.H a (.lst vs.dropLast), S.T⟩ ((H2.set hi (t := .dat d1) r1 fun z => by cases z).set hj (t := .dat d2) r2 fun z => by cases z)
end
end DL
namespace DL
open PySem L2
open Evl (Ex)
/-! ## dicts made -/
def putG {α : Type} (kds : List (Key × α)) (k : Key) (d : α) : List (Key × α) :=
  if (kds.any fun kv => decide (kv.1 = k)) = true then kds.map (fun kv => if kv.1 = k then (kv.1, d) else kv) else kds ++ [(k, d)]
theorem any_keys {α β : Type} {kvs : List (Key × α)} {kds : List (Key × β)} (h : kvs.map (·.1) = kds.map (·.1)) (k : Key) : (kvs.any fun kv => decide (kv.1 = k)) = (kds.any fun kv => decide (kv.1 = k)) := by
  have e1 : (kvs.any fun kv => decide (kv.1 = k)) = (kvs.map (·.1)).any fun z => decide (z = k) := by rw [List.any_map]; rfl
  have e2 : (kds.any fun kv => decide (kv.1 = k)) = (kds.map (·.1)).any fun z => decide (z = k) := by rw [List.any_map]; rfl
  rw [e1, e2, h]
theorem rps_upd {K : PySem.W.Frag} [LT K] {F : Hp} {k : Key} {v : V} {d : D} (hv : Rp K F v d) : ∀ {kvs : List (Key × V)} {kds : List (Key × D)}, kvs.map (·.1) = kds.map (·.1) → Rps K F (kvs.map (·.2)) (kds.map (·.2)) →
    (kvs.map fun kv => if kv.1 = k then (kv.1, v) else kv).map (·.1) = (kds.map fun kv => if kv.1 = k then (kv.1, d) else kv).map (·.1) ∧
    Rps K F ((kvs.map fun kv => if kv.1 = k then (kv.1, v) else kv).map (·.2)) ((kds.map fun kv => if kv.1 = k then (kv.1, d) else kv).map (·.2))
  | [], [], _, _ => ⟨rfl, .nil⟩
  | [], _ :: _, h, _ => by cases h
  | _ :: _, [], h, _ => by cases h
  | (k1, v1) :: r, (k2, d2) :: r2, h, q => by
    have h1 : k1 = k2 := (List.cons.inj h).1
    have h2 : r.map (·.1) = r2.map (·.1) := (List.cons.inj h).2
    subst h1
    cases q with
    | cons q1 q2 =>
      obtain ⟨e1, e2⟩ := rps_upd (k := k) hv h2 q2
      by_cases e : k1 = k
      · subst e
        simp only [List.map_cons, if_true]
        exact ⟨by rw [e1], .cons hv e2⟩
      · simp only [List.map_cons, if_neg e]
        exact ⟨by rw [e1], .cons q1 e2⟩
theorem rps_put {K : PySem.W.Frag} [LT K] {F : Hp} {k : Key} {v : V} {d : D} {kvs : List (Key × V)} {kds : List (Key × D)} (hk : kvs.map (·.1) = kds.map (·.1)) (r : Rps K F (kvs.map (·.2)) (kds.map (·.2))) (hv : Rp K F v d) :
    (putK kvs k v).map (·.1) = (putG kds k d).map (·.1) ∧ Rps K F ((putK kvs k v).map (·.2)) ((putG kds k d).map (·.2)) := by
  unfold putK putG
  rw [any_keys hk k]
  split
  · exact rps_upd hv hk r
  · rw [List.map_append, List.map_append, List.map_append, List.map_append, hk]
    exact ⟨rfl, r.append (.cons hv .nil)⟩
theorem putG_len {α : Type} (kds : List (Key × α)) (k : Key) (d : α) : (putG kds k d).length ≤ kds.length + 1 := by
  unfold putG
  split
  · rw [List.length_map]; omega
  · rw [List.length_append]; simp
def mkD (ks : List (Key × D)) : List (Key × D) := ks.foldl (fun acc kd => putG acc kd.1 kd.2) []
theorem mkD_snoc (ks : List (Key × D)) (k : Key) (d : D) : mkD (ks ++ [(k, d)]) = putG (mkD ks) k d := by
  unfold mkD
  rw [List.foldl_append]
  rfl
theorem mkD_len (ks : List (Key × D)) : (mkD ks).length ≤ ks.length := by
  unfold mkD
  have : ∀ (ks acc : List (Key × D)), (ks.foldl (fun acc kd => putG acc kd.1 kd.2) acc).length ≤ acc.length + ks.length := by
    intro ks
    induction ks with
    | nil => intro acc; exact Nat.le_refl _
    | cons q r ih =>
      intro acc
      rw [List.foldl_cons]
      have h1 := ih (putG acc q.1 q.2)
      have h2 := putG_len acc q.1 q.2
      rw [List.length_cons]
      omega
  have h := this ks []
  simpa using h
section
variable {K : PySem.W.Frag} [LT K] {p : Option Addr} {S S0 S1 S2 S3 : Wd} {B : Hp} {σ σ' : L2.St} {te ta tb tc to tk tv : TE} {d d1 d2 d3 : D} {ds es : List D} {v : V} {m M n k : Nat} {P P1 P2 : D → Prop} {l l' : En} {i j : Nat} {t : Ty} {kds : List (Key × D)}
def EvOD (K : PySem.W.Frag) [LT K] (p : Option Addr) (te : TE) (σ : L2.St) (S : Wd) (kds : List (Key × D)) : Prop := ∀ S1, Gr K p S S1 → ∀ Q : VK, (∀ a kvs S2, Gr K p S1 S2 → S2.T ≤ S1.T → S1.H a = none → S2.H a = some (.dK kvs) → S2.F a = none → kvs.map (·.1) = kds.map (·.1) → Rps K S2.F (kvs.map (·.2)) (kds.map (·.2)) → Q (.ref a) S2.H) → te σ S1.H Q
theorem EvOD.ed (h : EvOD K p te σ S kds) : EvD K p te σ S (.dic kds) := fun S1 g Q q => h S1 g Q fun a kvs S2 g2 t h0 h1 h2 hk r =>
  q (.ref a) ⟨upd S2.F a (.dK kvs), S2.H, S2.T⟩ (g2.fix h0 h1 h2 (ok_ne g.ok h0)) t (.dic upd_same hk (r.mono (Ex.new h2)))
theorem EvOD.x (h : EvOD K p te σ S kds) : EvX K p te σ S 0 (fun t => t = .odc kds) := fun S1 g _ Q q => h S1 g Q fun a kvs S2 g2 t h0 h1 h2 hk r => q (.ref a) (.odc kds) S2 g2 t ⟨a, kvs, rfl, h1, hk, r, h2, h0⟩ rfl
theorem eod_new : EvOD K p tDNewK σ S [] := fun S1 g Q q => fun a ha => q a [] ⟨S1.F, upd S1.H a (.dK []), S1.T⟩ (Gr.newO g.ok ha) (Nat.le_refl _) ha upd_same (g.ok.freshF ha) rfl .nil
theorem eod_dc {wi : TI} {tt : TT} {vs : List Nat} {b : DL.D → Bool} {kf : DL.D → Key} {f : DL.D → DL.D} (h : Sta K p S0 B m M n σ S l) (hq : EvS K p wi σ S ds) (hi : i < m) (hv : vs.contains i = true)
    (he : ∀ d ∈ ds, ∀ B' n' σ' S', Sta K p S0 B' m M n' σ' S' (put i (.dat d) (l.filter fun q => !vs.contains q.1)) → EvT K p tt σ' S' (b d) ∧ (b d = true → EvD K p tk σ' S' (kD (kf d)) ∧ EvD K p tv σ' S' (f d))) (hz : ds.length < sizeLine) :
    EvOD K p (tDc wi (gName i) tt tk tv vs) σ S (mkD ((ds.filter b).map fun d => (kf d, f d))) := by
  intro S1 g1 Q q
  have hm : i ∈ vs := by simpa using hv
  refine hq S1 g1 _ fun J S2 g2 t2 src => ?_
  intro A hA
  have hF2 := g2.ok.freshF hA
  have hAp := ok_ne g2.ok hA
  refine ⟨fun c k H' => k = ds.length - c ∧ c ≤ ds.length ∧ ∃ (S' : Wd) (acc : List (Key × V)), S'.H = H' ∧ Gr K p S2 S' ∧ S'.T ≤ S2.T ∧ S'.H A = some (.dK acc) ∧ S'.F A = none ∧ acc.map (·.1) = (mkD (((ds.take c).filter b).map fun d => (kf d, f d))).map (·.1) ∧ Rps K S'.F (acc.map (·.2)) ((mkD (((ds.take c).filter b).map fun d => (kf d, f d))).map (·.2)),
    ⟨ds.length, by simp, Nat.zero_le _, ⟨S2.F, upd S2.H A (.dK []), S2.T⟩, [], rfl, Gr.newO g2.ok hA, Nat.le_refl _, upd_same, hF2, by rw [List.take_zero]; rfl, by rw [List.take_zero]; exact .nil⟩, ?_⟩
  rintro c k H' ⟨rfl, hc, S', acc, rfl, g', t', hA', hF', ka, ra⟩
  obtain ⟨s1, s2⟩ := src S' g'.ff g'.ok c
  by_cases hlt : c < ds.length
  · obtain ⟨go, yl⟩ := s1 hlt
    refine .inr ⟨go, fun H' => ∃ (S' : Wd) (acc : List (Key × V)), S'.H = H' ∧ Gr K p S2 S' ∧ S'.T ≤ S2.T ∧ S'.H A = some (.dK acc) ∧ S'.F A = none ∧ acc.map (·.1) = (mkD (((ds.take (c + 1)).filter b).map fun d => (kf d, f d))).map (·.1) ∧ Rps K S'.F (acc.map (·.2)) ((mkD (((ds.take (c + 1)).filter b).map fun d => (kf d, f d))).map (·.2)), fun H' q => ⟨ds.length - (c + 1), by omega, rfl, hlt, q⟩, fun x H' y => ?_⟩
    obtain ⟨eH, d, hd, rx⟩ := yl x H' y
    subst eH
    have st := (h.any ((g1.trans g2).trans g')).wiped vs
    have st2 := (st.set (t := .dat d) hi rx (fun z => by cases z)).base (fun _ _ q => q)
    obtain ⟨e1, e2⟩ := he d (List.mem_of_getElem? hd) _ _ _ _ st2
    refine ⟨by rw [wipe_set hm, wipe_wipe fun _ z => z], e1 S' (Gr.refl g'.ok) _ fun S3 g3 t3 => ?_⟩
    have tk : (ds.take (c + 1)).filter b = if b d = true then (ds.take c).filter b ++ [d] else (ds.take c).filter b := by
      rw [List.take_succ, hd, List.filter_append]
      simp only [Option.toList, List.filter_cons, List.filter_nil]
      split <;> simp
    cases hb : b d with
    | true =>
      rw [if_pos rfl]
      obtain ⟨ek, ev⟩ := e2 hb
      refine ek S3 g3 _ fun y S4 g4 t4 ry => ev S4 (g3.trans g4) _ fun z S5 g5 t5 rz => ?_
      have g6 := (g3.trans g4).trans g5
      have hA5 := g6.hh _ _ hA' hAp
      have hF5 : S5.F A = none := (g6.old A (by rw [hA']; simp)).trans hF'
      have hl : acc.length ≤ ds.length := by
        have e : acc.length = (mkD (((ds.take c).filter b).map fun d => (kf d, f d))).length := by have := congrArg List.length ka; simpa using this
        rw [e]
        refine Nat.le_trans (mkD_len _) ?_
        rw [List.length_map]
        exact Nat.le_trans (List.length_filter_le _ _) (by rw [List.length_take]; omega)
      have ey := kD_kV ry
      obtain ⟨w1, w2⟩ := rps_put (k := kf d) ka (ra.mono g6.ff) rz
      refine ⟨acc, kf d, ey, hA5, by omega, ⟨S5.F, upd S5.H A (.dK (putK acc (kf d) z)), S5.T⟩, putK acc (kf d) z, rfl, Gr.chg g2.ok (g'.trans g6) hA hF5 hA5 (fun ps z => by cases z) code_ne_dK, by show S5.T ≤ _; omega, upd_same, hF5, ?_, ?_⟩
      · rw [tk, hb, if_pos rfl, List.map_append]
        show _ = (mkD (_ ++ [(kf d, f d)])).map _
        rw [mkD_snoc]
        exact w1
      · rw [tk, hb, if_pos rfl, List.map_append]
        show Rps K S5.F _ ((mkD (_ ++ [(kf d, f d)])).map _)
        rw [mkD_snoc]
        exact w2
    | false =>
      rw [if_neg Bool.false_ne_true]
      have hA3 := g3.hh _ _ hA' hAp
      have hF3 : S3.F A = none := (g3.old A (by rw [hA']; simp)).trans hF'
      refine ⟨S3, acc, rfl, g'.trans g3, by omega, hA3, hF3, ?_, ?_⟩
      · rw [tk, hb, if_neg Bool.false_ne_true]
        exact ka
      · rw [tk, hb, if_neg Bool.false_ne_true]
        exact ra.mono g3.ff
  · have e : c = ds.length := by omega
    subst e
    rw [List.take_length] at ra ka
    exact .inl ⟨s2 rfl, q A acc S' (g2.trans g') (by omega) (g2.fresh hA) hA' hF' ka ra⟩
end
/-! how many keys -/
def addU {α : Type} [DecidableEq α] (acc : List α) (k : α) : List α := if (acc.any fun z => decide (z = k)) = true then acc else acc ++ [k]
theorem putG_keys {α : Type} (kds : List (Key × α)) (k : Key) (d : α) : (putG kds k d).map (·.1) = addU (kds.map (·.1)) k := by
  have e1 : (kds.any fun kv => decide (kv.1 = k)) = (kds.map (·.1)).any fun z => decide (z = k) := by rw [List.any_map]; rfl
  unfold putG addU
  rw [e1]
  split
  · rw [List.map_map]
    apply List.map_congr_left
    intro q _
    show (if q.1 = k then (q.1, d) else q).1 = q.1
    split <;> rfl
  · rw [List.map_append]; rfl
/-- the first of each -/
def uniq {α : Type} [DecidableEq α] (l : List α) : List α := l.foldl addU []
theorem mkD_keys (ks : List (Key × D)) : (mkD ks).map (·.1) = uniq (ks.map (·.1)) := by
  unfold mkD uniq
  have : ∀ (ks acc : List (Key × D)) (a2 : List Key), acc.map (·.1) = a2 → (ks.foldl (fun acc kd => putG acc kd.1 kd.2) acc).map (·.1) = (ks.map (·.1)).foldl addU a2 := by
    intro ks
    induction ks with
    | nil => intro acc a2 h; exact h
    | cons q r ih =>
      intro acc a2 h
      rw [List.foldl_cons, List.map_cons, List.foldl_cons]
      refine ih _ _ ?_
      rw [putG_keys, h]
  exact this ks [] [] rfl
theorem uniq_map {α β : Type} [DecidableEq α] [DecidableEq β] (f : α → β) (hf : ∀ x y, f x = f y → x = y) (l : List α) : uniq (l.map f) = (uniq l).map f := by
  unfold uniq
  have : ∀ (l acc : List α), (l.map f).foldl addU (acc.map f) = (l.foldl addU acc).map f := by
    intro l
    induction l with
    | nil => intro acc; rfl
    | cons q r ih =>
      intro acc
      rw [List.map_cons, List.foldl_cons, List.foldl_cons]
      have e : addU (acc.map f) (f q) = (addU acc q).map f := by
        unfold addU
        have e2 : ((acc.map f).any fun z => decide (z = f q)) = acc.any fun z => decide (z = q) := by
          rw [List.any_map]
          congr 1
          funext z
          show decide (f z = f q) = decide (z = q)
          exact decide_eq_decide.mpr ⟨hf z q, fun h => by rw [h]⟩
        rw [e2]
        split
        · rfl
        · rw [List.map_append]; rfl
      rw [e, ih]
  exact this l []
end DL
/-! ## sum of a list of lists -/
namespace DL.SumL
open PySem PySem.Spec PyProof.Rows
section
variable {prog : Program} {w : World} {A : Around} {R : Result → Shared → Prop} {I : Addr} {fp wr : List Addr} {G : Array GenState → Array GenState → Prop} {n : Nat} {P : Nat → Value → Prop} {St : Nat → Shared → Prop}
def flat (vs : Nat → List Value) : Nat → Nat → List Value
  | _, 0 => []
  | i, k + 1 => vs i ++ flat vs (i + 1) k
theorem loop (W : WalksS prog w A.in1 I fp wr G n P St) (S : Addr) (hSf : S ∉ fp) (b0 : Nat) (hSb : b0 ≤ S) (hw : ∀ b ∈ wr, b0 ≤ b) (hw2 : ∀ b ∈ wr, b < S) (val : Nat → Addr) (hval : ∀ i v, P i v → v = Value.ref (val i)) (hb : ∀ i, i < n → val i < b0) (vs : Nat → List Value) :
    ∀ (k i : Nat) (s : Shared) (T : Addr) (acc : List Value) (c m : Nat), n - i = k → i ≤ n → St i s → s.heap.get? S = some { cls := .type "list", dict := none, data := .seq #[.ref T] c, slots := #[] } →
    s.heap.get? T = some { cls := .type "list", data := .seq acc.toArray m } → T ≠ S → (T < b0 ∨ S < T) → (∀ j, j < n → ∃ m, s.heap.get? (val j) = some { cls := .type "list", data := .seq (vs j).toArray m }) → (acc ++ flat vs i k).length ≤ sizeLine →
    (∀ s' T' m', Moved (S :: wr) G s s' → s'.heap.get? T' = some { cls := .type "list", data := .seq (acc ++ flat vs i k).toArray m' } → ((k = 0 ∧ T' = T) ∨ S < T') → R (.ok (.ret (.ref T'))) s') → codeAny (model prog w) A (.builtin "sum.loop" ⟨[.ref I, .ref S, rawInt 2, rawInt 0], []⟩) R s := by
  have hSw : S ∉ wr := fun h => hSf (W.sub _ h)
  have hsub : ∀ b ∈ wr, b ∈ S :: wr := fun b hb => List.mem_cons_of_mem _ hb
  intro k
  induction k with
  | zero =>
    intro i s T acc c m hk hi hst hS hT hTS hTw hL hz hR
    have hin : i = n := by omega
    subst hin
    refine codeAny_builtin F.entry_sum_loop ?_
    rw [Around.under_plainId F.plain_sum_loop _]
    show wpAny _ A.in1 (seqItems? (.ref S) >>= _) _ _ s
    refine wpAny_bind (wpAny_seqItems hS rfl ?_)
    show wpAny _ A.in1 (tryCatch (pyNext (.ref I)) _ >>= _) _ _ s
    refine wpAny_bind (wpAny_tryCatch (W.done s _ _ hst fun s' hm => ?_))
    have hTw' : T ∉ wr := by
      rcases hTw with h | h
      · exact fun z => absurd (hw _ z) (Nat.not_le_of_lt h)
      · exact fun z => absurd (hw2 _ z) (Nat.not_lt_of_lt h)
    exact wpAny_pure (hR s' T m (hm.mono hsub) (by show _ = some ({ cls := .type "list", data := .seq (acc ++ []).toArray m } : Obj); rw [List.append_nil]; exact hm.heap T _ hTw' hT) (.inl ⟨rfl, rfl⟩))
  | succ k ih =>
    intro i s T acc c m hk hi hst hS hT hTS hTw hL hz hR
    have hlt : i < n := by omega
    have hTw' : T ∉ wr := by
      rcases hTw with h | h
      · exact fun z => absurd (hw _ z) (Nat.not_le_of_lt h)
      · exact fun z => absurd (hw2 _ z) (Nat.not_lt_of_lt h)
    refine codeAny_builtin F.entry_sum_loop ?_
    rw [Around.under_plainId F.plain_sum_loop _]
    show wpAny _ A.in1 (seqItems? (.ref S) >>= _) _ _ s
    refine wpAny_bind (wpAny_seqItems hS rfl ?_)
    show wpAny _ A.in1 (tryCatch (pyNext (.ref I)) _ >>= _) _ _ s
    refine wpAny_bind (wpAny_tryCatch (W.item i s _ _ hlt hst fun v s' hP hst' hm => ?_))
    have ev := hval i v hP
    subst ev
    have old : ∀ b, b < b0 → ∀ o, s.heap.get? b = some o → s'.heap.get? b = some o := fun b hb o e => hm.heap b o (fun z => absurd (hw _ z) (Nat.not_le_of_lt hb)) e
    have hS' := hm.heap S _ hSw hS
    have hT' := hm.heap T _ hTw' hT
    obtain ⟨m2, hv⟩ := hL i hlt
    have hv' := old _ (hb i hlt) _ hv
    have hz1 : acc.length + (vs i).length ≤ sizeLine := by
      have e : (acc ++ flat vs i (k + 1)).length = acc.length + ((vs i).length + (flat vs (i + 1) k).length) := by
        rw [List.length_append]
        show _ + (vs i ++ flat vs (i + 1) k).length = _
        rw [List.length_append]
      omega
    show wpAny _ A.in1 ((holding [Value.ref (val i)] (binaryOp .Add (.ref T) (.ref (val i)))).attempt >>= _) _ _ _
    refine wpAny_bind (wpAny_attempt (wpAny_holding (PySem.P.add_list hT' hv' ?_ (by rw [List.size_toArray, List.size_toArray]; exact hz1))))
    have ea : acc.toArray ++ (vs i).toArray = (acc ++ vs i).toArray := by simp
    rw [ea]
    have hSp := Heap.get?_push_of_some ({ cls := .type "list", data := .seq (acc ++ vs i).toArray } : Obj) hS'
    show wpAny _ A.in1 (updateSeq S (fun _ => #[.ref s'.heap.objs.size]) >>= _) _ _ _
    refine wpAny_bind (wpAny_updateSeq hSp rfl ?_)
    have hS₂ := Heap.get?_update_self (Obj.mapSeq fun _ => #[Value.ref s'.heap.objs.size]) hSp rfl
    refine wpAny_bind (wpAny_letGo ?_)
    have hSz : S < s'.heap.objs.size := Heap.lt_size hS'
    have oth : ∀ b, b ≠ S → ∀ o, s'.heap.get? b = some o → (((s'.heap.push { cls := .type "list", data := .seq (acc ++ vs i).toArray }).update S (Obj.mapSeq fun _ => #[Value.ref s'.heap.objs.size])).update S (Obj.mapSeq fun _ => #[Value.ref s'.heap.objs.size])).get? b = some o := fun b hb o e =>
      (Heap.get?_update_other _ _ (fun h : S = b => hb h.symm)).trans ((Heap.get?_update_other _ _ (fun h : S = b => hb h.symm)).trans (Heap.get?_push_of_some _ e))
    refine wpAny_bind (wpAny_updateSeq hS₂ rfl (wpAny_pure ⟨plainId_quiet F.plain_sum_loop _, ih (i + 1) _ s'.heap.objs.size (acc ++ vs i) _ 0 (by omega) hlt (W.frame _ s' _ _ hst' (by first | exact Nat.le_refl _ | exact Nat.le_succ _ | omega) fun b hb o e => ?_) (Heap.get?_update_self _ hS₂ rfl) ?_ ?_ ?_ (fun j hj => ?_) ?_ fun s'' T'' m'' hm'' hT'' hor => ?_⟩))
    · exact oth b (fun z => hSf (z ▸ hb)) o e
    · have hne : s'.heap.objs.size ≠ S := Nat.ne_of_gt hSz
      exact (Heap.get?_update_other _ _ (fun h : S = _ => hne h.symm)).trans ((Heap.get?_update_other _ _ (fun h : S = _ => hne h.symm)).trans (Heap.get?_push_size _ rfl))
    · exact Nat.ne_of_gt hSz
    · exact .inr hSz
    · obtain ⟨m3, h3⟩ := hL j hj
      exact ⟨m3, oth _ (fun z => by have q := hb j hj; rw [z] at q; exact absurd hSb (Nat.not_le_of_lt q)) _ (old _ (hb j hj) _ h3)⟩
    · rw [List.append_assoc]; exact hz
    · refine hR s'' T'' m'' (Moved.trans W.gtrans ((hm.mono hsub).then_heap (by first | exact Nat.le_refl _ | exact Nat.le_succ _ | omega) fun b o hb e => ?_) hm'') ?_ ?_
      · exact oth b (fun h => hb (by rw [h]; exact List.mem_cons_self)) o e
      · rw [List.append_assoc] at hT''; exact hT''
      · rcases hor with h | h
        · exact .inr (by rw [h.2]; exact hSz)
        · exact .inr h
end
section
variable {prog : Program} {w : World} {A : Around} {E : Value → Shared → Prop} {s : Shared}
theorem args_sum2 (a b : Value) : argsOk "sum" ⟨[a, b], []⟩ := by unfold argsOk; kernel_rfl
theorem call_sum {x : Addr} {b : Addr} {its : Array Value} {m : Nat} {Q : Value → Shared → Prop} (hh : A.handled = none) (hl : s.heap.IsList x its) (val : Nat → Addr) (vs : Nat → List Value) (hval : ∀ i v, its[i]? = some v → v = Value.ref (val i))
    (hL : ∀ j, j < its.size → ∃ m, s.heap.get? (val j) = some { cls := .type "list", data := .seq (vs j).toArray m }) (hb : s.heap.get? b = some { cls := .type "list", data := .seq #[] m }) (hn : 0 < its.size) (hz : (flat vs 0 its.size).length ≤ sizeLine)
    (h : ∀ (h' : Heap) (tk : Nat) (T m' : Nat), (∀ a o, s.heap.get? a = some o → h'.get? a = some o) → s.heap.objs.size ≤ T → h'.get? T = some { cls := .type "list", data := .seq (flat vs 0 its.size).toArray m' } → Q (.ref T) { s with heap := h', toks := tk }) :
    wpAny (model prog w) A (call (.builtin "sum") [.ref x, .ref b]) Q E s := by
  refine call_function_tree F.kind_sum F.plain_sum F.entry_sum (args_sum2 _ _) ?_
  unfold Builtin.«sum»
  simp only [List.length_cons, List.length_nil]
  rw [if_neg (by decide)]
  refine wpAny_bind (wpAny_of_eq (show Builtin.Builtins.bindParams "sum" ["start"] 0 ⟨[.ref b], []⟩ = pure [some (.ref b)] from rfl) ?_)
  have hx : x < s.heap.objs.size := by obtain ⟨o, ho, _⟩ := hl; exact Heap.lt_size ho
  have hbx : b < s.heap.objs.size := Heap.lt_size hb
  refine wpAny_bind (wpAny_pyIter_list hl ?_)
  refine wpAny_bind (wpAny_pure ?_)
  have hb2 : (s.heap.push { cls := .type "list_iterator", data := .fields #[.ref x, .int 0 0] }).get? b = some { cls := .type "list", data := .seq #[] m } := Heap.get?_push_of_some _ hb
  have tb : Shared.TypeIs { s with heap := s.heap.push { cls := .type "list_iterator", data := .fields #[.ref x, .int 0 0] } } (.ref b) "list" := ⟨_, hb2, rfl⟩
  simp only [List.forIn_cons, List.forIn_nil]
  refine wpAny_bind (wpAny_bind (wpAny_bind (wpAny_isInstance (T := "list") (b := false) tb F.sub_list_str ?_)))
  simp only [Bool.false_eq_true, if_false]
  refine wpAny_pure (wpAny_bind (wpAny_bind (wpAny_isInstance (T := "list") (b := false) tb F.sub_list_bytes ?_)))
  simp only [Bool.false_eq_true, if_false]
  refine wpAny_pure (wpAny_bind (wpAny_bind (wpAny_isInstance (T := "list") (b := false) tb F.sub_list_bytearray ?_)))
  simp only [Bool.false_eq_true, if_false]
  refine wpAny_pure (wpAny_pure ?_)
  refine wpAny_bind (wpAny_newObj_type ?_)
  have hs1 : (s.heap.push { cls := .type "list_iterator", data := .fields #[.ref x, .int 0 0] }).objs.size = s.heap.objs.size + 1 := Heap.size_push ..
  have hne : x ≠ s.heap.objs.size := Nat.ne_of_lt hx
  have kp : ∀ a o, s.heap.get? a = some o → ((s.heap.push { cls := .type "list_iterator", data := .fields #[.ref x, .int 0 0] }).push { cls := .type "list", data := .seq [Value.ref b].toArray }).get? a = some o := fun a o e => Heap.get?_push_of_some _ (Heap.get?_push_of_some _ e)
  refine wpAny_pure ⟨plainId_quiet F.plain_sum_loop _, loop ((Walks.list (A := A.in1) hh s.heap.objs.size x hne its).toS) (s.heap.push { cls := .type "list_iterator", data := .fields #[.ref x, .int 0 0] }).objs.size ?_ s.heap.objs.size ?_ ?_ ?_ val (fun i v hv => hval i v hv) (fun i hi => ?_) vs its.size 0 _ b [] _ m (by omega) (Nat.zero_le _) ?_ (Heap.get?_push_size _ rfl) (kp _ _ hb) ?_ (.inl hbx) (fun j hj => ?_) (by rw [List.nil_append]; exact hz) fun s' T' m' hm hT hor => ?_⟩
  · rw [hs1]
    simp only [List.mem_cons, List.not_mem_nil, or_false, not_or]
    exact ⟨Nat.succ_ne_self _, Nat.ne_of_gt (Nat.lt_succ_of_lt hx)⟩
  · rw [hs1]; exact Nat.le_succ _
  · intro q hq
    rw [List.mem_singleton.mp hq]
    exact Nat.le_refl _
  · intro q hq
    rw [List.mem_singleton.mp hq, hs1]
    exact Nat.lt_succ_self _
  · obtain ⟨m, e⟩ := hL i hi
    exact Heap.lt_size e
  · exact ⟨⟨_, Heap.get?_push_of_some _ (Heap.get?_push_size _ rfl), rfl, rfl⟩, (hl.push _).push _⟩
  · rw [hs1]; exact Nat.ne_of_lt (Nat.lt_succ_of_lt hbx)
  · obtain ⟨m, e⟩ := hL j hj
    exact ⟨m, kp _ _ e⟩
  · rw [List.nil_append] at hT
    have hT2 : s.heap.objs.size ≤ T' := by
      rcases hor with z | z
      · omega
      · rw [hs1] at z; exact Nat.le_of_lt (Nat.lt_trans (Nat.lt_succ_self _) z)
    obtain ⟨h', g', d', tk', os'⟩ := s'
    have eg : g' = s.gens := hm.gens
    have ed : d' = s.drawn := hm.drawn
    have eo : os' = s.os := hm.os
    subst eg; subst ed; subst eo
    refine h h' tk' T' m' (fun a o e => hm.heap a o ?_ (kp a o e)) hT2 hT
    have ha := Heap.lt_size e
    rw [hs1]
    simp only [List.mem_cons, List.not_mem_nil, or_false, not_or]
    exact ⟨Nat.ne_of_lt (Nat.lt_succ_of_lt ha), Nat.ne_of_lt ha⟩
end
end DL.SumL
namespace DL
open PySem PySem.Spec PyProof.Rows L2
theorem pick_fun {α β : Type} {P : α → β → Prop} (h : ∀ x, ∃ y, P x y) : ∃ f : α → β, ∀ x, P x (f x) := ⟨fun x => (h x).choose, fun x => (h x).choose_spec⟩
theorem flat_vals {vs : List (List V)} {us : Nat → List Value} : ∀ (k i : Nat), i + k = vs.length → (∀ j xs, vs[j]? = some xs → Vals xs (us j)) → Vals (vs.drop i).flatten (SumL.flat us i k)
  | 0, i, h, _ => by
    rw [List.drop_eq_nil_of_le (by omega)]
    exact .nil
  | k + 1, i, h, hv => by
    have hi : i < vs.length := by omega
    rw [List.drop_eq_getElem_cons hi, List.flatten_cons]
    exact (hv i _ (List.getElem?_eq_getElem hi)).append (flat_vals k (i + 1) (by omega) hv)
/-- sum(a list of lists, []), one list or more -/
def rSumL (K : PySem.W.Frag) : List V → Hp → VK → Prop := fun xs H Q => ∃ (a b : Addr) (ls : List Addr) (vs : List (List V)), xs = [.ref a, .ref b] ∧ SqL K H a (ls.map V.ref) ∧ H b = some (.lst []) ∧ 0 < ls.length ∧ ls.length = vs.length ∧ (∀ (i l : Nat) (ys : List V), ls[i]? = some l → vs[i]? = some ys → H l = some (.lst ys)) ∧ vs.flatten.length ≤ sizeLine ∧
  ∀ p, H p = none → Q (.ref p) (upd H p (.lst vs.flatten))
theorem call_sumL {X : Cx} (hc : X.calm = true) : CallR X (.builtin "sum") (rSumL X.K) := by
  intro pins s σ H xs us Q I r h
  obtain ⟨a, b, ls, vs, rfl, ha, hb, h0, hlen, hl, hz, q⟩ := h
  cases r with
  | cons r1 r =>
    cases r with
    | cons r2 r =>
      cases r
      cases r1
      cases r2
      obtain ⟨its, rv, pl, _⟩ := I.list ha
      obtain ⟨its2, n2, rv2, e2, _⟩ := I.lst hb
      cases rv2
      have hil : its.length = ls.length := by rw [← rv.length, List.length_map]
      have hat : ∀ (i l : Nat), ls[i]? = some l → its[i]? = some (Value.ref l) := fun i l e => by
        obtain ⟨u, hu, ru⟩ := rv.get (i := i) (x := .ref l) (by rw [List.getElem?_map, e]; rfl)
        cases ru
        exact hu
      have hv : ∀ (i : Nat), ∃ us : List Value, ∀ ys, vs[i]? = some ys → ∀ l, ls[i]? = some l → Vals ys us ∧ ∃ m, s.heap.get? l = some { cls := .type "list", data := .seq us.toArray m } := fun i => by
        by_cases hi : i < ls.length
        · obtain ⟨us, m, rr, e, _⟩ := I.lst (hl i ls[i] (vs[i]'(by omega)) (List.getElem?_eq_getElem hi) (List.getElem?_eq_getElem (by omega)))
          refine ⟨us, fun ys hy l hl' => ?_⟩
          rw [List.getElem?_eq_getElem (by omega)] at hy
          rw [List.getElem?_eq_getElem hi] at hl'
          cases hy; cases hl'
          exact ⟨rr, m, e⟩
        · exact ⟨[], fun ys _ l hl' => absurd (List.getElem?_eq_some_iff.mp hl').1 hi⟩
      obtain ⟨uf, huf⟩ := pick_fun hv
      have hfl := flat_vals (vs := vs) (us := uf) vs.length 0 (by omega) (fun j xs e => by
        have hj : j < ls.length := by rw [hlen]; exact (List.getElem?_eq_some_iff.mp e).1
        exact (huf j xs e _ (List.getElem?_eq_getElem hj)).1)
      rw [List.drop_zero] at hfl
      have es : its.toArray.size = vs.length := by rw [List.size_toArray, hil, hlen]
      refine SumL.call_sum (its := its.toArray) (I.ok.hd hc) pl.isList (fun i => ls.getD i 0) uf (fun i v e => ?_) (fun j hj => ?_) e2 (by rw [es]; omega) (by rw [es, ← hfl.length]; exact hz) fun h' tk T m' hk hT hT2 => ?_
      · have e' : its[i]? = some v := by simpa using e
        have hi : i < ls.length := by rw [← hil]; exact (List.getElem?_eq_some_iff.mp e').1
        have e3 := hat i ls[i] (List.getElem?_eq_getElem hi)
        rw [e'] at e3
        cases e3
        rw [List.getD_eq_getElem?_getD, List.getElem?_eq_getElem hi]
        rfl
      · rw [es, ← hlen] at hj
        rw [List.getD_eq_getElem?_getD, List.getElem?_eq_getElem hj]
        exact (huf j _ (List.getElem?_eq_getElem (by omega)) ls[j] (List.getElem?_eq_getElem hj)).2
      · rw [es] at hT2
        have hTn : H T = none := I.hok.fresh hT
        refine ⟨.ref T, upd H T (.lst vs.flatten), I.laid (t' := tk) hk hT ?_, rfl, q T hTn⟩
        exact ⟨hz, _, m', hfl, hT2⟩
end DL
/-! ## set(a list) of numbers, of texts: what it holds; its length; its members in order -/
namespace DL
section
variable {α : Type} [DecidableEq α]
theorem addU_in {l : List α} {x : α} (h : x ∈ l) : addU l x = l := by
  unfold addU
  rw [if_pos (List.any_eq_true.mpr ⟨x, h, decide_eq_true rfl⟩)]
theorem addU_out {l : List α} {x : α} (h : x ∉ l) : addU l x = l ++ [x] := by
  unfold addU
  rw [if_neg]
  intro z
  obtain ⟨y, hy, e⟩ := List.any_eq_true.mp z
  exact h (of_decide_eq_true e ▸ hy)
theorem uniq_snoc (l : List α) (x : α) : uniq (l ++ [x]) = addU (uniq l) x := by
  unfold uniq
  rw [List.foldl_append]
  rfl
theorem mem_addU {l : List α} {x y : α} : y ∈ addU l x ↔ y ∈ l ∨ y = x := by
  by_cases h : x ∈ l
  · rw [addU_in h]
    exact ⟨.inl, fun z => z.elim id fun e => e ▸ h⟩
  · rw [addU_out h, List.mem_append, List.mem_singleton]
theorem mem_uniq {l : List α} {y : α} : y ∈ uniq l ↔ y ∈ l := by
  suffices h : ∀ (r acc : List α), y ∈ r.foldl addU acc ↔ y ∈ acc ∨ y ∈ r from (h l []).trans (by simp)
  intro r
  induction r with
  | nil => intro acc; simp
  | cons x r ih => intro acc; rw [List.foldl_cons, ih, mem_addU, List.mem_cons, or_assoc]
theorem nodup_uniq (l : List α) : (uniq l).Nodup := by
  suffices h : ∀ (r acc : List α), acc.Nodup → (r.foldl addU acc).Nodup from h l [] .nil
  intro r
  induction r with
  | nil => exact fun _ h => h
  | cons x r ih =>
    intro acc h
    refine ih _ ?_
    by_cases z : x ∈ acc
    · rwa [addU_in z]
    · rw [addU_out z]
      exact List.nodup_append.mpr ⟨h, List.nodup_cons.mpr ⟨List.not_mem_nil, .nil⟩, fun a ha b hb e => z (by rw [← List.mem_singleton.mp hb, ← e]; exact ha)⟩
theorem uniq_short (l : List α) : (uniq l).length ≤ l.length := by
  suffices h : ∀ (r acc : List α), (r.foldl addU acc).length ≤ acc.length + r.length from Nat.le_trans (h l []) (by simp)
  intro r
  induction r with
  | nil => exact fun acc => Nat.le_refl _
  | cons x r ih =>
    intro acc
    refine Nat.le_trans (ih _) ?_
    by_cases z : x ∈ acc
    · rw [addU_in z, List.length_cons]; omega
    · rw [addU_out z, List.length_append, List.length_cons, List.length_cons, List.length_nil]; omega
theorem perm_of_len : ∀ {l m : List α}, l.Nodup → (∀ x ∈ l, x ∈ m) → m.length = l.length → m.Perm l
  | [], m, _, _, e => by rw [List.eq_nil_of_length_eq_zero e]
  | x :: l, m, nd, h, e => by
    obtain ⟨n1, n2⟩ := List.nodup_cons.mp nd
    have hx := h x List.mem_cons_self
    refine (List.perm_cons_erase hx).trans (.cons x (perm_of_len n2 (fun y hy => ?_) ?_))
    · exact (List.mem_erase_of_ne (fun z => n1 (by rw [← z]; exact hy))).mpr (h y (List.mem_cons_of_mem _ hy))
    · rw [List.length_erase_of_mem hx, e]
      rfl
end
end DL
namespace DL.SetQ
open PySem PySem.Spec PyProof.Rows L2 PySem.Froz
/-- an empty set -/
abbrev noneIn (w : World) : Obj := { cls := .type "set", dict := none, data := .set #[] 0 (.fresh 0 0 (!w.params.followText "set-order")) }
/-- sets of one kind of values: how they are told, and what an add does -/
structure Kit (P : Program) (w : World) (α : Type) [DecidableEq α] where
  val : α → Tok → Value
  held : Heap → Addr → List α → Prop
  keep : ∀ {h h' : Heap} {a : Addr} {l : List α}, held h a l → (∀ o, h.get? a = some o → h'.get? a = some o) → held h' a l
  new : ∀ {h : Heap} {a : Addr}, h.get? a = some (noneIn w) → held h a []
  size : ∀ {h : Heap} {a : Addr} {l : List α}, held h a l → ∃ o es ep t, h.get? a = some o ∧ o.ExactSet ∧ o.data = .set es ep t ∧ t.fits es.size = true ∧ es.size = l.length
  add : ∀ {A : Around} {E : Value → Shared → Prop} {s : Shared} {a : Addr} {l : List α} {x : α} {t : Tok} {Q : Bool → Shared → Prop}, held s.heap a l → l.length + 1 < scanBound →
    (∀ b h' tk, s.toks ≤ tk → Heap.SameBut a s.heap h' → held h' a (addU l x) → Q b { s with heap := h', toks := tk }) → wpAny (model P w) A (setAdd a (val x t)) Q E s
section
variable {P : Program} {w : World} {α : Type} [DecidableEq α]
/-- the loop that fills a set -/
theorem fill (k : Kit P w α) {A : Around} {R : Result → Shared → Prop} {I : Addr} {fp wr : List Addr} {G : Array GenState → Array GenState → Prop} {n : Nat} {Pv : Nat → Value → Prop} {St : Nat → Shared → Prop} (W : WalksS P w A.in1 I fp wr G n Pv St) {S : Addr} (off : S ∉ fp)
    {xs : List α} (few : xs.length + 1 < scanBound) (len : xs.length = n) (items : ∀ i v, Pv i v → ∃ x t, xs[i]? = some x ∧ v = k.val x t) : ∀ (m i : Nat) (s : Shared), i + m = n → St i s → k.held s.heap S (uniq (xs.take i)) →
      (∀ s', Moved (S :: wr) G s s' → k.held s'.heap S (uniq xs) → R (.ok (.ret .none)) s') → codeAny (model P w) A (.builtin "set.update.loop" ⟨[.ref S, .ref I], []⟩) R s := by
  have noW : S ∉ wr := fun z => off (W.sub S z)
  have wide : ∀ {s s' : Shared}, Moved wr G s s' → Moved (S :: wr) G s s' := fun m => m.mono fun b hb => List.mem_cons_of_mem S hb
  intro m
  induction m with
  | zero =>
    intro i s hi st held fin
    obtain rfl : i = n := hi
    rw [List.take_of_length_le (Nat.le_of_eq len)] at held
    apply codeAny_builtin PyProof.Rows.F.entry_set_update_loop
    rw [Around.under_plainId PyProof.Rows.F.plain_set_update_loop]
    exact wpAny_bind (W.done s _ _ st fun s' mv => wpAny_pure (fin s' (wide mv) (k.keep held fun o e => mv.heap S o noW e)))
  | succ m ih =>
    intro i s hi st held fin
    apply codeAny_builtin PyProof.Rows.F.entry_set_update_loop
    rw [Around.under_plainId PyProof.Rows.F.plain_set_update_loop]
    refine wpAny_bind (W.item i s _ _ (by omega) st fun v s1 pv st1 mv => ?_)
    obtain ⟨x, t, hx, rfl⟩ := items i v pv
    have next : uniq (xs.take (i + 1)) = addU (uniq (xs.take i)) x := by rw [List.take_succ, hx, ← uniq_snoc]; rfl
    have room : (uniq (xs.take i)).length + 1 < scanBound := by
      have a := uniq_short (xs.take i)
      rw [List.length_take] at a
      omega
    refine wpAny_bind (wpAny_holding (k.add (k.keep held fun o e => mv.heap S o noW e) room fun b h' tk le same held2 => ?_))
    have other : ∀ b o, b ≠ S → s1.heap.get? b = some o → h'.get? b = some o := fun b o hb e => (same.2 b hb).trans e
    refine wpAny_pure ⟨plainId_quiet PyProof.Rows.F.plain_set_update_loop _, ih (i + 1) _ (by omega) (W.frame _ s1 _ _ st1 le fun b hb o e => other b o (fun z => off (z ▸ hb)) e) (next ▸ held2) fun s2 mv2 held3 => ?_⟩
    have mv1 : Moved (S :: wr) G s { s1 with heap := h', toks := tk } := (wide mv).then_heap le fun b o hb e => other b o (fun z => hb (z ▸ List.mem_cons_self)) e
    exact fin s2 (.trans W.gtrans mv1 mv2) held3
/-- the call of the class: a new set, then its __init__ -/
theorem called {A : Around} {E : Value → Shared → Prop} {s : Shared} {l : Addr} {Q : Value → Shared → Prop} (isS : Shared.TypeIs { s with heap := s.heap.push (noneIn w) } (.ref s.heap.objs.size) "set")
    (h : wpAny (model P w) A.in1.in1 (Builtin.«set.__init__» ⟨[.ref s.heap.objs.size, .ref l], []⟩) (fun fin s' => match fin with
      | .done f => wants (fun r s2 => r = .none ∧ Q (.ref s.heap.objs.size) s2) E (.ok f) s'
      | .again c' => c'.quiet = true ∧ codeAny (model P w) A.in1 c' (wants (fun r s2 => r = .none ∧ Q (.ref s.heap.objs.size) s2) E) s')
      (fun e s' => wants (fun r s2 => r = .none ∧ Q (.ref s.heap.objs.size) s2) E (.error e) s') { s with heap := s.heap.push (noneIn w) }) : wpAny (model P w) A (call (.type "set") [.ref l]) Q E s := by
  obtain ⟨first, mros, mro⟩ := PySem.F.called_set.mro
  have a1 := PySem.F.called_set.made
  have a2 := PySem.F.called_set.sub
  have a3 := PySem.F.called_set.notType
  have a4 := PySem.F.called_set.canCreate
  have a5 := PySem.F.typeCall_set_1 (.ref l)
  apply wpAny_call
  apply codeAny_of_tree
  change wpAny _ _ (callAny (.type "set") _) _ _ _
  refine wpAny_pure ⟨Code.quiet_builtin _ (by decide +kernel), codeAny_builtin PySem.F.entry_type_call ?_⟩
  rw [Around.under_plain (weight_type_call_type "set" [.ref l] []) rfl]
  repeat (any_goals (first | assumption | wp_step))
  refine codeAny_mono (code_set_led1 (.ref l) (E := E) (Q₁ := fun o s1 => o = .ref s.heap.objs.size ∧ s1 = { s with heap := s.heap.push (noneIn w) }) ⟨rfl, rfl⟩) fun r s1 got => ?_
  match r, got with
  | .ok (.ret o), ⟨e1, e2⟩ =>
    subst e1 e2
    have b1 := PySem.F.called_set.init.lookup
    have b2 := PySem.F.called_set.init.bind (.ref s.heap.objs.size)
    repeat (any_goals (first | assumption | wp_step))
    refine codeAny_mono (codeAny_call_builtin PySem.F.called_set.init.plain PySem.F.entry_set_init (PySem.check_set_init_1 isS h)) fun r2 s2 got2 => ?_
    match r2, got2 with
    | .ok (.ret u), ⟨e3, q⟩ =>
      subst e3
      repeat (any_goals (first | assumption | wp_step))
    | .error e, got2 => exact got2
    | .ok .next, got2 => exact False.elim got2
    | .ok .brk, got2 => exact False.elim got2
    | .ok .cont, got2 => exact False.elim got2
  | .error e, got => exact got
  | .ok .next, got => exact False.elim got
  | .ok .brk, got => exact False.elim got
  | .ok .cont, got => exact False.elim got
/-- set(xs), a list -/
theorem made (k : Kit P w α) {A : Around} {E : Value → Shared → Prop} {s : Shared} {l : Addr} {items : Array Value} {xs : List α} {Q : Value → Shared → Prop} (hh : A.handled = none) (hl : s.heap.IsList l items) (len : xs.length = items.size)
    (hv : ∀ (i : Nat) (v : Value), items[i]? = some v → ∃ (x : α) (t : Tok), xs[i]? = some x ∧ v = k.val x t) (few : xs.length + 1 < scanBound)
    (h : ∀ h' tk, k.held h' s.heap.objs.size (uniq xs) → (∀ b o, s.heap.get? b = some o → h'.get? b = some o) → Q (.ref s.heap.objs.size) { s with heap := h', toks := tk }) : wpAny (model P w) A (call (.type "set") [.ref l]) Q E s := by
  have isS : Shared.TypeIs { s with heap := s.heap.push (noneIn w) } (.ref s.heap.objs.size) "set" := ⟨noneIn w, Heap.get?_push_size _ rfl, rfl⟩
  refine called (l := l) isS ?_
  obtain ⟨ol, ho, hcl, nl, hdl⟩ := hl
  obtain ⟨_, od, _, os⟩ := ol
  dsimp only at hcl hdl
  subst hcl hdl
  have lt : l < s.heap.objs.size := Heap.lt_size ho
  have isL : (s.heap.push (noneIn w)).IsList l items := ⟨_, Heap.get?_push_of_some _ ho, rfl, nl, rfl⟩
  have hS : (s.heap.push (noneIn w)).get? s.heap.objs.size = some (noneIn w) := Heap.get?_push_size _ rfl
  have hol := Heap.get?_push_of_some (noneIn w) ho
  have n1 := PySem.F.sub_list_set
  have n2 := PySem.F.sub_list_frozenset
  have n3 : (Value.type "list" == Value.type "dict") = false := by decide
  unfold Builtin.«set.__init__» noKeywords Builtin.Frozenset.updateFrom
  generalize hI : pyIter = it
  wp_walk
  subst hI
  refine wpAny_pyIter_list isL (wpAny_bind (wpAny_runValue ?_))
  have sz : (s.heap.push (noneIn w)).objs.size = s.heap.objs.size + 1 := Heap.size_push _ _
  have W := (Walks.list (prog := P) (w := w) (A := A.in1.in1.in1) hh (s.heap.push (noneIn w)).objs.size l (by rw [sz]; exact Nat.ne_of_lt (Nat.lt_succ_of_lt lt)) items).toS
  refine fill k W (S := s.heap.objs.size) (by
    rw [sz, List.mem_cons, List.mem_singleton]
    exact fun z => z.elim (Nat.ne_of_lt (Nat.lt_succ_self _)) (Nat.ne_of_gt lt)) few len hv items.size 0 _ (Nat.zero_add _) ⟨⟨_, Heap.get?_push_size _ rfl, rfl, rfl⟩, isL.push _⟩ (k.new (Heap.get?_push_of_some _ hS)) fun s' mv held => ?_
  obtain ⟨h', g', d', tk, os'⟩ := s'
  obtain rfl : g' = s.gens := mv.gens
  obtain rfl : d' = s.drawn := mv.drawn
  obtain rfl : os' = s.os := mv.os
  refine wpAny_pure (wpAny_pure ⟨rfl, h h' tk held fun b o e => mv.heap b o ?_ (Heap.get?_push_of_some _ (Heap.get?_push_of_some _ e))⟩)
  have small : b < s.heap.objs.size := Heap.lt_size e
  rw [sz, List.mem_cons, List.mem_singleton]
  exact fun z => z.elim (Nat.ne_of_lt small) (Nat.ne_of_lt (Nat.lt_succ_of_lt small))
/-! ### texts -/
theorem tail_ris (ep : Nat) (es : Array (Int × Value)) (d : Bool) {t : SetTable} (r : Ris t.place.toList) : Ris (tailTx ep es t d).2.2.place.toList ∧ (tailTx ep es t d).2.2.led = t.led := by
  unfold tailTx
  split
  · exact ⟨relayAll_ris _ _ _, relayAll_led _ _ _⟩
  · exact ⟨r, rfl⟩
theorem grown_ris (h : Int) (v : Value) (D : SD) (r : Ris D.2.2.place.toList) : Ris (addTx h v D).2.2.place.toList ∧ (addTx h v D).2.2.led = D.2.2.led := by
  have a := layNew_ris D.2.2 D.1 h v r
  have b := layNew_led D.2.2 D.1 h v
  have c : ∀ t : SetTable, (if t.plain = true then { t with plain := false } else t).place = t.place ∧ (if t.plain = true then { t with plain := false } else t).led = t.led := fun t => by split <;> exact ⟨rfl, rfl⟩
  have d := tail_ris D.2.1 (layNew D.2.2 D.1 h v).1 (layNew D.2.2 D.1 h v).2.2.1 (t := if (layNew D.2.2 D.1 h v).2.1.plain = true then { (layNew D.2.2 D.1 h v).2.1 with plain := false } else (layNew D.2.2 D.1 h v).2.1) (by rw [(c _).1]; exact a)
  exact ⟨d.1, d.2.trans ((c _).2.trans b)⟩
def heldS (P : Program) (w : World) (h : Heap) (a : Addr) (l : List Str) : Prop := ∃ D : SD, h.get? a = some (sObj "set" D) ∧ TxOk P w D l ∧ Ris D.2.2.place.toList ∧ (w.params.followText "set-order" = true ∨ D.2.2.led = true)
/-- a text that is there already: nothing changes -/
theorem again_in {A : Around} {E : Value → Shared → Prop} {s : Shared} {a : Addr} {D : SD} {l : List Str} {k : Str} {u : Tok} {Q : Bool → Shared → Prop} (ho : s.heap.get? a = some (sObj "set" D)) (F : TxOk P w D l) (hk : k ∈ l) (few : l.length < scanBound) (h : ∀ b, Q b s) :
    wpAny (model P w) A (setAddHashed a (.str k u) (hashStr w k)) Q E s := by
  have sz : D.1.size < scanBound := by rw [F.sz]; exact few
  obtain ⟨j, hj⟩ : ∃ j, List.findIdx? (fun e => (strKind P w).is k e.2) D.1.toList = some j := by
    cases q : List.findIdx? (fun e => (strKind P w).is k e.2) D.1.toList with
    | some j => exact ⟨j, rfl⟩
    | none =>
      obtain ⟨e, he, hs⟩ := (F.mem k).mp hk
      rw [List.findIdx?_eq_none_iff.mp q e he] at hs
      cases hs
  unfold setAddHashed setAddHashedIn
  apply wpAny_holding
  refine wpAny_bind (wpAny_setState_of ho rfl F.fit ?_)
  dsimp only
  rw [byScan_of rfl sz F.el, if_pos rfl]
  unfold setAddByScan
  refine wpAny_bind (wpAny_bind (wpAny_rule (wpAny_bind (wpAny_setScan_of (knd := strKind P w) (k := k) (is_str k u) ho rfl F.fit F.el ?_))))
  rw [hj]
  exact wpAny_pure (wpAny_pure (h _))
def kitS (P : Program) (w : World) : Kit P w Str where
  val := .str
  held := heldS P w
  keep := fun ⟨D, e, r⟩ k => ⟨D, k _ e, r⟩
  new := fun e => ⟨(#[], 0, .fresh 0 0 (!w.params.followText "set-order")), e, TxOk.nil (by rfl), .nil, by
    show _ ∨ (!w.params.followText "set-order") = true
    cases q : w.params.followText "set-order"
    · exact .inr rfl
    · exact .inl rfl⟩
  size := fun ⟨D, e, F, _⟩ => ⟨_, _, _, _, e, ⟨rfl, rfl, rfl⟩, rfl, F.fit, F.sz⟩
  add := fun {A E s a l x t Q} ⟨D, e, F, r, led⟩ few h => by
    unfold setAdd
    apply wpAny_holding
    refine wpAny_bind ((strKind P w).pyHash (k := x) (is_str x t) ?_)
    by_cases hx : x ∈ l
    · exact again_in (s := { s with toks := s.toks + 1 }) e F hx (Nat.lt_of_succ_lt few) fun b => h b s.heap (s.toks + 1) (Nat.le_succ _) (.refl a s.heap) ⟨D, e, by rw [addU_in hx]; exact F, r, led⟩
    · refine add_x (s := { s with toks := s.toks + 1 }) e F hx few (h true _ (s.toks + 1) (Nat.le_succ _) (Heap.SameBut.update _ _ _) ⟨_, get_upd _ e rfl, ?_, (grown_ris _ _ D r).1, led.imp id fun z => (grown_ris _ _ D r).2.trans z⟩)
      have G := add_ok (w := w) t F (k := x)
      rw [addU_out hx]
      exact ⟨G.el, fun y => (by rw [List.mem_append, List.mem_singleton, or_comm, ← List.mem_cons]; exact G.mem y), G.sz.trans (by rw [List.length_append, List.length_cons]; rfl), G.fit⟩
/-! ### numbers -/
def kitI (P : Program) (w : World) : Kit P w Int where
  val := .int
  held := fun h a l => SetR w h a (fun j => decide (j ∈ l)) l.length
  keep := fun R k => R.at k
  new := fun {h a} e => by
    refine ⟨_, #[], 0, .fresh 0 0 (!w.params.followText "set-order"), e, ⟨rfl, rfl, rfl⟩, rfl, fun e he => (by simp at he), .nil, fun j => (by simp), (by decide), (by rfl), rfl, .nil, ?_⟩
    show _ ∨ (!w.params.followText "set-order") = true
    cases q : w.params.followText "set-order"
    · exact .inr rfl
    · exact .inl rfl
  size := fun ⟨o, es, ep, t, ho, hex, hd, _, _, _, _, hf, hn, _⟩ => ⟨o, es, ep, t, ho, hex, hd, hf, hn⟩
  add := fun {A E s a l x t Q} R few h => by
    unfold setAdd
    apply wpAny_holding
    refine wpAny_bind ((intKind P w).pyHash (k := x) (intKind_is P w x t) ?_)
    refine setR_add_hashed (s := { s with toks := s.toks + 1 }) R few fun h' sb r => h _ h' (s.toks + 1) (Nat.le_succ _) sb ?_
    by_cases hx : x ∈ l
    · rw [addU_in hx]
      rw [if_pos (decide_eq_true hx)] at r
      exact r.congr fun j => by by_cases e : j = x <;> simp [e, hx]
    · rw [addU_out hx, List.length_append]
      rw [if_neg (by simp [hx])] at r
      exact r.congr fun j => by simp
end
/-! ### in the hand layer -/
section
variable {X : Cx} {pins : List (Addr × Obj)} {σ : L2.St} {s : Shared} {H : Hp}
/-- how a kit's values are told by V -/
structure Told (α : Type) [DecidableEq α] (k : Kit X.prog X.w α) (v : α → V) : Prop where
  to : ∀ x u, RelV (v x) u → ∃ t, u = k.val x t
theorem toldS : Told (X := X) Str (kitS X.prog X.w) V.str := ⟨fun _ _ r => r⟩
theorem toldI : Told (X := X) Int (kitI X.prog X.w) V.int := ⟨fun _ _ r => r⟩
theorem made_in {α : Type} [DecidableEq α] {k : Kit X.prog X.w α} {v : α → V} (T : Told α k v) (I : Inv X pins σ H s) (hc : X.calm = true) {l : Addr} {xs : List α} (hq : SqL X.K H l (xs.map v)) (few : xs.length ≤ 4000) {Q : Value → Shared → Prop} {E : Value → Shared → Prop}
    (h : ∀ h' tk, k.held h' s.heap.objs.size (uniq xs) → (∀ b o, s.heap.get? b = some o → h'.get? b = some o) → Q (.ref s.heap.objs.size) { s with heap := h', toks := tk }) : wpAny (model X.prog X.w) X.A (call (.type "set") [.ref l]) Q E s := by
  obtain ⟨its, r, pl, hz⟩ := I.list hq
  have len : xs.length = its.toArray.size := by rw [List.size_toArray, ← r.length, List.length_map]
  refine made k (I.ok.hd hc) pl.isList len (fun i u hu => ?_) (by unfold scanBound; omega) h
  have hi : i < xs.length := by
    rw [len]
    exact (Array.getElem?_eq_some_iff.mp hu).1
  obtain ⟨u2, e2, rv⟩ := r.get (i := i) (x := v xs[i]) (by rw [List.getElem?_map, List.getElem?_eq_getElem hi]; rfl)
  obtain rfl : u2 = u := Option.some.inj (e2.symm.trans (by simpa using hu))
  obtain ⟨t, e⟩ := T.to _ _ rv
  exact ⟨xs[i], t, List.getElem?_eq_getElem hi, e⟩
/-- a set that is tracked -/
def setO {P : Program} {w : World} {α : Type} [DecidableEq α] (k : Kit P w α) (a : Addr) (l : List α) : HO := .ext fun h => k.held h a l
theorem setO_ok {P : Program} {w : World} {α : Type} [DecidableEq α] (k : Kit P w α) {H : Hp} {h : Heap} {a : Addr} {l : List α} (x : k.held h a l) : ObjOk P w H h a (setO k a l) :=
  let ⟨o, _, _, _, e, _⟩ := k.size x
  ⟨x, ⟨o, e⟩, fun _ _ y st => k.keep y st⟩
def rSet {P : Program} {w : World} {α : Type} [DecidableEq α] (K : PySem.W.Frag) (k : Kit P w α) (v : α → V) : List V → Hp → VK → Prop := fun xs H Q => ∃ l ys, xs = [.ref l] ∧ SqL K H l (ys.map v) ∧ ys.length ≤ 4000 ∧ ∀ p, H p = none → Q (.ref p) (upd H p (setO k p (uniq ys)))
theorem cr_set {α : Type} [DecidableEq α] {k : Kit X.prog X.w α} {v : α → V} (T : Told α k v) (hc : X.calm = true) : CallR X (.type "set") (rSet X.K k v) := by
  rintro pins s σ H vs us Q I r ⟨l, ys, rfl, hq, few, q⟩
  rw [Vals.ref1 r]
  exact made_in T I hc hq few fun h' tk held kp => ⟨.ref _, _, I.laid kp (Nat.le_refl _) (setO_ok k held), rfl, q _ (I.hok.fresh (Nat.le_refl _))⟩
def rLen {P : Program} {w : World} {α : Type} [DecidableEq α] (k : Kit P w α) : List V → Hp → VK → Prop := fun xs H Q => ∃ a l, xs = [.ref a] ∧ H a = some (setO k a l) ∧ l.length ≤ 4000 ∧ Q (.int l.length) H
theorem cr_len {α : Type} [DecidableEq α] (k : Kit X.prog X.w α) : CallR X (.builtin "len") (rLen k) := by
  rintro pins s σ H vs us Q I r ⟨a, l, rfl, ha, few, q⟩
  rw [Vals.ref1 r]
  obtain ⟨o, es, ep, t, e, ex, d, f, n⟩ := k.size (I.hok a _ ha).1
  exact call_len_set e ex d f (by omega) ⟨.int l.length, H, I.tok _, ⟨_, by rw [n]⟩, q⟩
end
end DL.SetQ
namespace DL
open PySem PySem.Spec PyProof.Rows L2
/-- len(set(xs)), xs a list of texts -/
def tLenSetT (P : Program) (w : World) (K : PySem.W.Frag) (ta : TE) : TE := tCB (SetQ.rLen (SetQ.kitS P w)) (tCons (tCB (SetQ.rSet K (SetQ.kitS P w) V.str) (tCons ta tNil)) tNil)
theorem pe_lenSetT {X : Cx} {a : Expr} {ta : TE} {p p2 q pos : Pos} (hc : X.calm = true) (hg : Gl X "len") (hm : X.mg "len" = none) (hg2 : Gl X "set") (hm2 : X.mg "set" = none) (ha : PE X a ta)
    (na : starEach [a] X.env = (false, eval a X.env) :: starEach [] X.env := by rfl) : PE X (.Call (.Name "len" p) [.Call (.Name "set" p2) [a] [] q] [] pos) (tLenSetT X.prog X.w X.K ta) :=
  pe_callB (SetQ.cr_len (SetQ.kitS X.prog X.w)) hg hm boot_len (pa_cons (pe_callTy (SetQ.cr_set SetQ.toldS hc) hg2 hm2 boot_set (pa_cons ha pa_nil (hs := na)) (he := na)) pa_nil)
end DL
namespace DL
open PySem L2
open Evl (Ex)
section
variable {K : PySem.W.Frag} [LT K] {p : Option Addr} {S : Wd} {σ : L2.St} {te ta tb : TE} {d : D} {ds es : List D}
/-- set(xs): what is asked of it behind the making -/
theorem ev_set {P : Program} {w : World} {α : Type} [DecidableEq α] {kt : SetQ.Kit P w α} {f : α → V} {d : α → D} {xs : List α} {r : List V → Hp → VK → Prop} (inv : ∀ {F : Hp} {vs : List V}, Rps K F vs (xs.map d) → vs = xs.map f) (h : EvQ K p ta σ S true (xs.map d)) (hz : xs.length ≤ 4000) (S1 : Wd) (g : Gr K p S S1)
    (Q : VK) (q : ∀ a S2, Gr K p S1 S2 → S2.T ≤ S1.T → S2.H a = some (SetQ.setO kt a (uniq xs)) → S2.F a = none → S1.H a = none → r [.ref a] S2.H Q) : tCB r (tCons (tCB (SetQ.rSet K kt f) (tCons ta tNil)) tNil) σ S1.H Q := h S1 g _ fun a vs S2 g2 t2 h2 r2 => by
  have e := inv r2
  subst e
  rw [if_pos rfl] at h2
  exact ⟨a, xs, rfl, .of h2.1, hz, fun z hz => q z ⟨S2.F, upd S2.H z _, S2.T⟩ (g2.trans (Gr.newO g2.ok hz (fun ps => by unfold SetQ.setO; intro z; cases z))) t2 upd_same (g2.ok.freshF hz) (g2.fresh hz)⟩
theorem ed_lenSet {P : Program} {w : World} {xs : List Str} (h : EvQ K p ta σ S true (xs.map D.str)) (hz : xs.length ≤ 4000) : EvD K p (tLenSetT P w K ta) σ S (.int (uniq xs).length) := fun S1 g Q q =>
  ev_set (fun r => r.strs_inv) h hz S1 g Q fun a S2 g2 t2 ha _ _ => ⟨a, _, rfl, ha, Nat.le_trans (uniq_short xs) hz, q _ S2 g2 t2 (.int _)⟩
/-- sum of lists that last -/
theorem rps_flat {F : Hp} : ∀ {vs : List (List V)} {dss : List (List D)}, vs.length = dss.length → (∀ (i : Nat) (xs : List V) (ds : List D), vs[i]? = some xs → dss[i]? = some ds → Rps K F xs ds) → Rps K F vs.flatten dss.flatten
  | [], [], _, _ => .nil
  | [], _ :: _, h, _ => by cases h
  | _ :: _, [], h, _ => by cases h
  | x :: vs, d :: dss, h, r => by
    rw [List.flatten_cons, List.flatten_cons]
    exact (r 0 x d rfl rfl).append (rps_flat (by simpa using h) fun i xs ds e1 e2 => r (i + 1) xs ds (by simpa using e1) (by simpa using e2))
theorem eo_sum {dss : List (List D)} (h : EvD K p ta σ S (.lst (dss.map D.lst))) (hn : 0 < dss.length) (hz : dss.flatten.length ≤ sizeLine) : EvO K p (tCB (rSumL K) (tCons ta (tCons (tLst tNil) tNil))) σ S dss.flatten := fun S1 g Q q =>
  h S1 g _ fun v S2 g2 t2 r => ⟨by show 0 ≤ sizeLine; exact Nat.zero_le _, fun b hb => by
    cases r with
    | @lst a xs _ h1 r2 =>
      have g3 : Gr K p S2 ⟨S2.F, upd S2.H b (.lst []), S2.T⟩ := Gr.newO g2.ok hb
      have hx : ∀ (i : Nat) (ds : List D), dss[i]? = some ds → ∃ l ys, xs[i]? = some (.ref l) ∧ S2.F l = some (.lst ys) ∧ Rps K S2.F ys ds := fun i ds e => by
        obtain ⟨x, hx, rx⟩ := r2.get (i := i) (d := .lst ds) (by rw [List.getElem?_map, e]; rfl)
        cases rx with
        | @lst l ys _ h3 r3 => exact ⟨l, ys, hx, h3, r3⟩
      have hx2 : ∀ i : Nat, ∃ ly : Addr × List V, ∀ ds, dss[i]? = some ds → xs[i]? = some (.ref ly.1) ∧ S2.F ly.1 = some (.lst ly.2) ∧ Rps K S2.F ly.2 ds := fun i => by
        cases e : dss[i]? with
        | none => exact ⟨(0, []), fun ds z => by cases z⟩
        | some ds =>
          obtain ⟨l, ys, e1, e2, e3⟩ := hx i ds e
          exact ⟨(l, ys), fun ds' z => by cases z; exact ⟨e1, e2, e3⟩⟩
      obtain ⟨f, hf⟩ := pick_fun hx2
      have hlx : xs.length = dss.length := by rw [r2.length, List.length_map]
      have exs : xs = ((List.range dss.length).map fun i => (f i).1).map V.ref := by
        refine List.ext_getElem? fun i => ?_
        rw [List.map_map, List.getElem?_map]
        by_cases hi : i < dss.length
        · rw [List.getElem?_range hi, (hf i _ (List.getElem?_eq_getElem hi)).1]; rfl
        · rw [List.getElem?_eq_none (by rw [hlx]; omega), List.getElem?_eq_none (by rw [List.length_range]; omega)]; rfl
      have at' : ∀ (i : Nat) (ys : List V), ((List.range dss.length).map fun i => (f i).2)[i]? = some ys → i < dss.length ∧ ys = (f i).2 := fun i ys e => by
        rw [List.getElem?_map] at e
        by_cases hi : i < dss.length
        · rw [List.getElem?_range hi] at e; cases e; exact ⟨hi, rfl⟩
        · rw [List.getElem?_eq_none (by rw [List.length_range]; omega)] at e; cases e
      have hfl : Rps K S2.F ((List.range dss.length).map fun i => (f i).2).flatten dss.flatten := rps_flat (by simp) fun i ys ds e1 e2 => by
        obtain ⟨hi, rfl⟩ := at' i ys e1
        exact (hf i ds e2).2.2
      refine ⟨a, b, (List.range dss.length).map fun i => (f i).1, (List.range dss.length).map fun i => (f i).2, rfl, ?_, upd_same, by simpa using hn, by simp, fun i l ys e1 e2 => ?_, ?_, fun A hA => ?_⟩
      · rw [← exs]
        exact .of (g3.ok.sub _ _ (g3.ff _ _ h1))
      · obtain ⟨hi, rfl⟩ := at' i ys e2
        rw [List.getElem?_map, List.getElem?_range hi] at e1
        cases e1
        exact g3.ok.sub _ _ (g3.ff _ _ (hf i _ (List.getElem?_eq_getElem hi)).2.1)
      · rw [hfl.length]; exact hz
      · exact q A _ ⟨S2.F, upd (upd S2.H b (.lst [])) A (.lst ((List.range dss.length).map fun i => (f i).2).flatten), S2.T⟩ ((g2.trans g3).trans (Gr.newO g3.ok hA)) t2 ((g2.trans g3).fresh hA) upd_same (g3.ok.freshF hA) hfl⟩
end
def rDictP (K : PySem.W.Frag) : List V → Hp → VK → Prop := fun xs H Q => ∃ (a : Addr) (ps : List Addr) (kvs : List (Key × V)), xs = [.ref a] ∧ SqL K H a (ps.map V.ref) ∧ Paired (fun p kv => SqT K H p [kV kv.1, kv.2]) ps kvs ∧
    ∀ p, H p = none → Q (.ref p) (upd H p (.dK (mergeK [] kvs)))
section
variable {K : PySem.W.Frag} [LT K] {p : Option Addr} {S : Wd} {σ : L2.St} {te ta tb : TE} {d : D} {ds es : List D}
theorem rps_pairs {F : Hp} : ∀ {kds : List (Key × D)} {xs : List V}, Rps K F xs (kds.map fun kd => D.tup [kD kd.1, kd.2]) → ∃ (ps : List Addr) (kvs : List (Key × V)), xs = ps.map V.ref ∧ Paired (fun p kv => SqT K F p [kV kv.1, kv.2]) ps kvs ∧ kvs.map (·.1) = kds.map (·.1) ∧ Rps K F (kvs.map (·.2)) (kds.map (·.2))
  | [], _, .nil => ⟨[], [], rfl, .nil, rfl, .nil⟩
  | (k, d) :: kds, _, .cons h r => by
    obtain ⟨ps, kvs, e1, e2, e3, e4⟩ := rps_pairs r
    cases h with
    | @tup a us _ h1 h2 =>
      cases h2 with
      | cons q1 q2 => cases q2 with
        | cons q2 q3 =>
          cases q3
          have ek := kD_kV q1
          subst ek
          exact ⟨a :: ps, (k, _) :: kvs, by rw [e1]; rfl, .cons h1 e2, by rw [List.map_cons, List.map_cons, e3], .cons q2 e4⟩
theorem merge_mk {F : Hp} : ∀ {kds : List (Key × D)} {kvs acc : List (Key × V)} {acd : List (Key × D)}, kvs.map (·.1) = kds.map (·.1) → Rps K F (kvs.map (·.2)) (kds.map (·.2)) → acc.map (·.1) = acd.map (·.1) → Rps K F (acc.map (·.2)) (acd.map (·.2)) →
    (mergeK acc kvs).map (·.1) = (kds.foldl (fun acc kd => putG acc kd.1 kd.2) acd).map (·.1) ∧ Rps K F ((mergeK acc kvs).map (·.2)) ((kds.foldl (fun acc kd => putG acc kd.1 kd.2) acd).map (·.2))
  | [], [], _, _, _, _, h3, h4 => ⟨h3, h4⟩
  | [], _ :: _, _, _, h, _, _, _ => by cases h
  | _ :: _, [], _, _, h, _, _, _ => by cases h
  | (k1, d) :: kds, (k2, v) :: kvs, acc, acd, h1, h2, h3, h4 => by
    have e : k2 = k1 := (List.cons.inj h1).1
    subst e
    cases h2 with
    | cons q1 q2 =>
      obtain ⟨w1, w2⟩ := rps_put (k := k2) h3 h4 q1
      exact merge_mk (kds := kds) (kvs := kvs) (acc := putK acc k2 v) (acd := putG acd k2 d) (List.cons.inj h1).2 q2 w1 w2
theorem Paired.mapL {α β : Type} {R R' : α → β → Prop} : ∀ {xs : List α} {ys : List β}, Paired R xs ys → (∀ x y, R x y → R' x y) → Paired R' xs ys
  | _, _, .nil, _ => .nil
  | _, _, .cons h r, f => .cons (f _ _ h) (Paired.mapL r f)
theorem eod_dictP {kds : List (Key × D)} (h : EvD K p ta σ S (.lst (kds.map fun kd => D.tup [kD kd.1, kd.2]))) : EvOD K p (tCB (rDictP K) (tCons ta tNil)) σ S (mkD kds) := fun S1 g Q q => h S1 g _ fun v S2 g2 t2 r => by
  cases r with
  | @lst a xs _ h1 r2 =>
    obtain ⟨ps, kvs, e1, e2, e3, e4⟩ := rps_pairs r2
    subst e1
    refine ⟨a, ps, kvs, rfl, .of (g2.ok.sub _ _ h1), Paired.mapL e2 fun x y z => Evl.ex_t g2.ok.sub z, fun A hA => ?_⟩
    obtain ⟨w1, w2⟩ := merge_mk (acc := []) (acd := []) e3 e4 rfl .nil
    exact q A _ ⟨S2.F, upd S2.H A (.dK (mergeK [] kvs)), S2.T⟩ (g2.trans (Gr.newO g2.ok hA)) t2 (g2.fresh hA) upd_same (g2.ok.freshF hA) w1 w2
end
end DL
namespace DL
open PySem L2
open Evl (Ex)
/-! ## the laws' helpers: the pen, a draw, a pick -/
def dAt (ds : List D) (i : Nat) : D := ds.getD i .non
def spPen (K : PySem.W.Frag) [LT K] : Sp := fun vs H Q _ => ∃ (a : Addr) (ns : List Int) (F : Hp), vs = [.ref a] ∧ SqL K H a (ns.map V.int) ∧ ns.length ≤ 63 ∧ Ok K none ⟨F, H, 0⟩ ∧
  ∀ (q c : Addr) (F' H' : Hp), Gr K none ⟨F, H, 0⟩ ⟨F', H', 0⟩ → F' c = some (.lst (ns.map V.int)) → H' q = some (.lst [.ref c, .int 0, .int 0]) → F' q = none → H q = none → Q (.ref q) H'
theorem spPen_len {K : PySem.W.Frag} [LT K] {vs : List V} {H : Hp} {Q : VK} {E : XK} (h : spPen K vs H Q E) : vs.length = 1 := by
  obtain ⟨a, ns, F, rfl, _⟩ := h
  rfl
def spDraw (K : PySem.W.Frag) [LT K] : Sp := spN K 1 1 (fun ds => ∃ m : Int, dAt ds 0 = .int m ∧ 1 ≤ m ∧ m ≤ 1000000) (fun ds d => ∃ r m : Int, d = .int r ∧ dAt ds 0 = .int m ∧ 0 ≤ r ∧ r < m)
def itemsD : D → Option (List D)
  | .lst ds => some ds
  | .tup ds => some ds
  | .str s => some (signs s)
  | _ => none
def spPick (K : PySem.W.Frag) [LT K] : Sp := spN K 1 1 (fun ds => ∃ es, itemsD (dAt ds 0) = some es ∧ es ≠ [] ∧ es.length ≤ 1000000) (fun ds d => ∃ es, itemsD (dAt ds 0) = some es ∧ d ∈ es)
end DL
namespace DL
open PySem L2
open Evl (Ex)
/-! ## a draw -/
theorem bits_le {x : Int} {k : Nat} (h1 : -(2 ^ k : Int) < x) (h2 : x < 2 ^ k) : Builtin.Int.intBits x ≤ k := by
  unfold Builtin.Int.intBits
  split
  · exact Nat.zero_le _
  · rename_i h
    have h0 : x ≠ 0 := by simpa using h
    have hn : x.natAbs ≠ 0 := by omega
    have hb : x.natAbs < 2 ^ k := by
      have e : ((2 ^ k : Nat) : Int) = (2 : Int) ^ k := by simp
      omega
    exact (Nat.log2_lt hn).mpr hb
theorem mul_ok {x y : Int} (h1 : -(2 ^ 64 : Int) < y) (h2 : y < 2 ^ 64) : IntMulOk x y := IntMulOk.of_right (bits_le h1 h2)
theorem mul_okL {x y : Int} (h1 : -(2 ^ 64 : Int) < x) (h2 : x < 2 ^ 64) : IntMulOk x y := IntMulOk.of_left (bits_le h1 h2)
theorem pow_ok {x n : Int} {k : Nat} (h1 : -(2 ^ k : Int) < x) (h2 : x < 2 ^ k) (hn : 0 ≤ n) (hk : (k : Int) * n ≤ 2 ^ 27) : CPowI x n := by
  refine ⟨hn, Int.le_trans (Int.mul_le_mul_of_nonneg_right (Int.ofNat_le.mpr (bits_le h1 h2)) hn) hk⟩
/-! what does not touch the heap -/
def Zv (te : TE) (σ : L2.St) (H : Hp) (v : V) : Prop := ∀ Q : VK, Q v H → te σ H Q
section
variable {K : PySem.W.Frag} [LT K] {σ : L2.St} {H : Hp} {x y v : V} {ta tb : TE} {i j : Nat} {G : Ends}
theorem e0_var (h : σ[i]? = some (some v)) : Zv (tVar i) σ H v := fun Q q => ⟨v, h, q⟩
theorem e0_c : Zv (tC v) σ H v := fun Q q => q
theorem e0_op {r : R2} (ha : Zv ta σ H x) (hb : Zv tb σ H y) (hr : ∀ Q : VK, Q v H → r x y H Q) : Zv (tOp r ta tb) σ H v := fun Q q => ha _ (hb _ (hr Q q))
theorem e0_cb {r : List V → Hp → VK → Prop} (ha : Zv ta σ H x) (hr : ∀ Q : VK, Q v H → r [x] H Q) : Zv (tCB r (tCons ta tNil)) σ H v := fun Q q => ha _ (hr Q q)
theorem e0_I0 {f : Int → Int → Int} {a b : Int} (ha : Zv ta σ H (.int a)) (hb : Zv tb σ H (.int b)) : Zv (tOp (rI0 fun i j => .int (f i j)) ta tb) σ H (.int (f a b)) := e0_op ha hb fun Q q => ⟨a, b, rfl, rfl, q⟩
theorem e0_B0 {f : Int → Int → Bool} {a b : Int} (ha : Zv ta σ H (.int a)) (hb : Zv tb σ H (.int b)) : Zv (tOp (rI0 fun i j => .bl (f i j)) ta tb) σ H (.bl (f a b)) := e0_op ha hb fun Q q => ⟨a, b, rfl, rfl, q⟩
theorem e0_I {C : Int → Int → Prop} {f : Int → Int → Int} {a b : Int} (ha : Zv ta σ H (.int a)) (hb : Zv tb σ H (.int b)) (hc : C a b) : Zv (tOp (rI C fun i j => .int (f i j)) ta tb) σ H (.int (f a b)) := e0_op ha hb fun Q q => ⟨a, b, rfl, rfl, hc, q⟩
theorem e0_add {a b : Int} (ha : Zv ta σ H (.int a)) (hb : Zv tb σ H (.int b)) : Zv (tOp (rAddU K) ta tb) σ H (.int (a + b)) := e0_op ha hb fun Q q => .inl ⟨a, b, rfl, rfl, q⟩
theorem e0_mul {a b : Int} (ha : Zv ta σ H (.int a)) (hb : Zv tb σ H (.int b)) (hc : IntMulOk a b) : Zv (tOp rMulU ta tb) σ H (.int (a * b)) := e0_op ha hb fun Q q => .inl ⟨a, b, rfl, rfl, hc, q⟩
theorem e0_int {a : Int} (ha : Zv ta σ H (.int a)) : Zv (tCB rInt1 (tCons ta tNil)) σ H (.int a) := e0_cb ha fun Q q => .inl ⟨a, rfl, q⟩
theorem e0_intB {a : Bool} (ha : Zv ta σ H (.bl a)) : Zv (tCB rInt1 (tCons ta tNil)) σ H (.int (if a then 1 else 0)) := e0_cb ha fun Q q => .inr ⟨a, rfl, q⟩
theorem e0_abs {a : Int} (ha : Zv ta σ H (.int a)) : Zv (tCB rAbs (tCons ta tNil)) σ H (.int (if a < 0 then -a else a)) := e0_cb ha fun Q q => ⟨a, rfl, q⟩
theorem e0_ix {a : Addr} {xs : List V} {z : Int} (ha : Zv ta σ H (.ref a)) (hb : Zv tb σ H (.int z)) (hH : H a = some (.lst xs)) (hv : atI xs z = some v) : Zv (tOp (rIx K) ta tb) σ H v := e0_op ha hb fun Q q => .inl ⟨a, xs, z, v, rfl, rfl, .of hH, hv, q⟩
theorem e0_len {a : Addr} {xs : List V} (ha : Zv ta σ H (.ref a)) (hH : H a = some (.lst xs)) : Zv (tCB (rLenA K) (tCons ta tNil)) σ H (.int (xs.length : Int)) := e0_cb ha fun Q q => .inl ⟨.ref a, xs.length, rfl, .inl ⟨xs, .of hH, rfl⟩, q⟩
theorem a0_asg (he : Zv ta σ H v) (k : G.nx (σ.set i (some v)) H) : tAsg ta (gName i) G σ H := he _ k
theorem a0_pen {a : Addr} {xs : List V} {z : Int} {c : Nat} {tp ti : TE} (he : Zv ta σ H v) (hp : Zv tp σ H (.ref a)) (hi : Zv ti σ H (.int z)) (hH : H a = some (.lst xs)) (hc : ixN xs.length z = some c) (k : G.nx σ (upd H a (.lst (xs.set c v)))) : tAsg ta (gSub tp ti rSetL) G σ H :=
  he _ (hp _ (hi _ ⟨a, xs, z, c, rfl, rfl, hH, hc, k⟩))
theorem a0_ret (he : Zv ta σ H v) (k : G.rt v H) : tRet ta G σ H := he _ k
theorem a0_if {tt : TT} {tu tw : TS} {b : Bool} (he : ∀ Q : Bool → Hp → Prop, Q b H → tt σ H Q) (k1 : b = true → tu G σ H) (k2 : b = false → tw G σ H) : tIfS tt tu tw G σ H := by
  refine he _ ?_
  cases b with
  | true => show if true = true then _ else _; rw [if_pos rfl]; exact k1 rfl
  | false => show if false = true then _ else _; rw [if_neg Bool.false_ne_true]; exact k2 rfl
theorem t0_test {b : Bool} (he : Zv ta σ H (.bl b)) : ∀ Q : Bool → Hp → Prop, Q b H → tTest ta σ H Q := fun Q q => he _ ⟨b, rfl, q⟩
end
/-- the pen's list is stored -/
theorem pen_chg {K : PySem.W.Frag} [LT K] {a c : Addr} {S : Wd} {cs : List Int} {t r : Int} {T : Nat} (ok : Ok K (some a) S) (hc : S.F c = some (.lst (cs.map V.int))) (hl : cs.length ≤ 63) (ht : 0 ≤ t) (hT : t ≤ T) (hr : 0 ≤ r) : Gr K (some a) S ⟨S.F, upd S.H a (.lst [.ref c, .int t, .int r]), T⟩ := by
  have hF : S.F a = none := (ok.pen a rfl).2
  refine ⟨fun _ _ q => q, fun b o q np _ => ?_, fun b q => ?_, fun _ _ => rfl, ⟨fun b o q => ?_, fun b q => ?_, ok.nt, (by obtain ⟨⟨_, _, _, _, q1, _⟩, _⟩ := ok.pen a rfl; exact tabs_lst ok.tb q1)⟩⟩ <;> dsimp only at *
  · rw [upd_ne (fun z => np (by rw [z]))]; exact q
  · intro z
    by_cases hb : b = a
    · subst hb; rw [upd_same] at z; cases z
    · rw [upd_ne hb] at z; exact q z
  · have hb : b ≠ a := fun z => by subst z; rw [hF] at q; cases q
    rw [upd_ne hb]; exact ok.sub b o q
  · cases q
    exact ⟨⟨c, t, r, cs, upd_same, hc, hl, ht, hT, hr⟩, hF⟩
/-- the draw's body, its constants apart -/
def drawT (K : PySem.W.Frag) [LT K] (a1 a2 a3 a4 a5 a6 a7 : Int) : TS :=
  (tSeq (tIfS (tTest (tOp (rI0 fun i j => .bl (decide (j < i))) (tOp (rIx K) (tVar 0) (tC (.int 2))) (tC (.int 0))))
    (tSeq (tAsg (tCB rInt1 (tCons (tOp (rIx K) (tVar 0) (tC (.int 2))) tNil)) (gName 2))
    (tSeq (tAsg (tOp (rI CDiv fun i j => .int (i / j)) (tVar 2) (tVar 1)) (gSub (tVar 0) (tC (.int 2)) rSetL))
    (tRet (tOp (rI (fun _ j => 0 < j) fun i j => .int (i % j)) (tCB rInt1 (tCons (tVar 2) tNil)) (tVar 1)))))
    tNext)
    (tSeq (tAsg (tOp (rIx K) (tVar 0) (tC (.int 1))) (gName 3))
    (tSeq (tAsg (tOp (rAddU K) (tVar 3) (tC (.int 1))) (gSub (tVar 0) (tC (.int 1)) rSetL))
    (tSeq (tAsg (tOp (rAddU K) (tOp rMulU (tC (.int a1)) (tVar 3)) (tC (.int a2))) (gName 4))
    (tSeq (tIfS (tTest (tOp (rNeU K) (tOp (rIx K) (tVar 0) (tC (.int 0))) (tLst tNil)))
    (tAsg (tOp (rIx K) (tOp (rIx K) (tVar 0) (tC (.int 0))) (tOp (rI (fun _ j => 0 < j) fun i j => .int (i % j)) (tCB rInt1 (tCons (tVar 3) tNil)) (tCB (rLenA K) (tCons (tOp (rIx K) (tVar 0) (tC (.int 0))) tNil)))) (gName 4))
    tNext)
    (tSeq (tIfS (tAnd (tTest (tOp (rI0 fun i j => .bl (decide (i < j))) (tVar 3) (tCB (rLenA K) (tCons (tOp (rIx K) (tVar 0) (tC (.int 0))) tNil)))) (tTest (tOp (rI0 fun i j => .bl (decide (j ≤ i))) (tCB rAbs (tCons (tVar 4) tNil)) (tOp (rI CPowI fun i j => .int (i ^ j.toNat)) (tC (.int 10)) (tC (.int 18))))))
    (tSeq (tAsg (tOp (rAddU K) (tOp rMulU (tC (.int 2)) (tOp (rI0 fun i j => .int (i - j)) (tCB rAbs (tCons (tVar 4) tNil)) (tOp (rI CPowI fun i j => .int (i ^ j.toNat)) (tC (.int 10)) (tC (.int 18))))) (tCB rInt1 (tCons (tOp (rI0 fun i j => .bl (decide (i < j))) (tVar 4) (tC (.int 0))) tNil))) (gName 2))
    (tSeq (tAsg (tOp (rI CDiv fun i j => .int (i / j)) (tCB rInt1 (tCons (tVar 2) tNil)) (tVar 1)) (gSub (tVar 0) (tC (.int 2)) rSetL))
    (tRet (tOp (rI (fun _ j => 0 < j) fun i j => .int (i % j)) (tCB rInt1 (tCons (tVar 2) tNil)) (tVar 1)))))
    tNext)
    (tSeq (tAsg (tOp (rI (fun _ j => 0 < j) fun i j => .int (i % j)) (tCB rInt1 (tCons (tOp (rI CPowI fun i j => .int (i ^ j.toNat)) (tOp (rAddU K) (tOp (rAddU K) (tOp (rI (fun _ j => 0 < j) fun i j => .int (i % j)) (tCB rInt1 (tCons (tVar 4) tNil)) (tC (.int 2147483549))) (tOp rMulU (tC (.int a3)) (tVar 3))) (tC (.int a4))) (tC (.int 5))) tNil)) (tC (.int 2147483629))) (gName 5))
    (tSeq (tAsg (tOp (rI (fun _ j => 0 < j) fun i j => .int (i % j)) (tCB rInt1 (tCons (tOp (rI CPowI fun i j => .int (i ^ j.toNat)) (tOp (rAddU K) (tOp (rAddU K) (tOp rMulU (tVar 5) (tOp (rAddU K) (tOp rMulU (tC (.int 2)) (tVar 3)) (tC (.int a5)))) (tOp rMulU (tOp rMulU (tC (.int a6)) (tVar 3)) (tVar 3))) (tC (.int a7))) (tC (.int 3))) tNil)) (tC (.int 2147483587))) (gName 5))
    (tRet (tOp (rI (fun _ j => 0 < j) fun i j => .int (i % j)) (tCB rInt1 (tCons (tOp (rI CDiv fun i j => .int (i / j)) (tVar 5) (tC (.int 64))) tNil)) (tVar 1)))))))))))
section
variable {K : PySem.W.Frag} [LT K]
theorem draw_run {a1 a2 a3 a4 a5 a6 a7 : Int} {vs : List V} {H : Hp} {Q : VK} {E : XK} {N : List Str} (h : spDraw K vs H Q E) (hN : N.length = 6) (b1 : 0 ≤ a1 ∧ a1 ≤ 1000000) (b2 : 0 ≤ a2 ∧ a2 ≤ 1000000) (b3 : 0 ≤ a3 ∧ a3 ≤ 1000000) (b4 : 0 ≤ a4 ∧ a4 ≤ 1000000) (b5 : 0 ≤ a5 ∧ a5 ≤ 1000000) (b6 : 0 ≤ a6 ∧ a6 ≤ 1000000) (b7 : 0 ≤ a7 ∧ a7 ≤ 1000000) :
    drawT K a1 a2 a3 a4 a5 a6 a7 { nx := fun _ H' => Q .non H', rt := Q } (L2.start N vs) H := by
  obtain ⟨S, a, ws, ds, rfl, rfl, ok, r, hn, ⟨m, hm, hm1, hm2⟩, hb, k⟩ := h
  match ds, hn with
  | [d], _ =>
  cases (show d = .int m from hm)
  cases r with
  | cons r1 r2 =>
  cases r2
  cases r1
  obtain ⟨⟨c, t, r, cs, pH, pF, pl, pt, pT, pr⟩, pN⟩ := ok.pen a rfl
  have hst : L2.start N [V.ref a, V.int m] = [some (.ref a), some (.int m), none, none, none, none] := by
    unfold L2.start
    rw [hN]
    rfl
  rw [hst]
  have cdv : CDiv 0 m := ⟨by omega, by omega⟩
  have ix2 : ∀ t' r' : Int, atI [V.ref c, V.int t', V.int r'] 2 = some (.int r') := fun _ _ => rfl
  have ix1 : ∀ t' r' : Int, atI [V.ref c, V.int t', V.int r'] 1 = some (.int t') := fun _ _ => rfl
  have ix0 : ∀ t' r' : Int, atI [V.ref c, V.int t', V.int r'] 0 = some (.ref c) := fun _ _ => rfl
  unfold drawT
  -- the end: an answer below m
  have fin : ∀ (z : Int) (S' : Wd), Gr K (some a) S S' → S'.T ≤ S.T + 1 → Q (.int (z % m)) S'.H := fun z S' g ht =>
    k _ (.int (z % m)) S' g ht (.int _) ⟨z % m, m, rfl, rfl, Int.emod_nonneg _ (by omega), Int.emod_lt_of_pos _ (by omega)⟩
  refine a0_if (t0_test (e0_B0 (f := fun i j => decide (j < i)) (e0_ix (e0_var rfl) e0_c pH (ix2 _ _)) e0_c)) (fun hr => ?_) (fun hr => ?_)
  · refine a0_asg (e0_int (e0_ix (e0_var rfl) e0_c pH (ix2 _ _))) ?_
    refine a0_pen (c := 2) (e0_I (f := fun i j => i / j) (e0_var rfl) (e0_var rfl) ⟨cdv.1, cdv.2⟩) (e0_var rfl) e0_c pH rfl ?_
    refine a0_ret (e0_I (f := fun i j => i % j) (e0_int (e0_var rfl)) (e0_var rfl) (by omega)) ?_
    exact fin r ⟨S.F, upd S.H a (.lst [.ref c, .int t, .int (r / m)]), S.T⟩ (pen_chg ok pF pl pt pT (Int.ediv_nonneg pr (by omega))) (by show S.T ≤ _; omega)
  · show tSeq _ _ _ _ _
    refine a0_asg (e0_ix (e0_var rfl) e0_c pH (ix1 _ _)) ?_
    refine a0_pen (c := 1) (e0_add (e0_var rfl) e0_c) (e0_var rfl) e0_c pH rfl ?_
    have g1 : Gr K (some a) S ⟨S.F, upd S.H a (.lst [.ref c, .int (t + 1), .int r]), S.T + 1⟩ := pen_chg ok pF pl (by omega) (by omega) pr
    refine a0_asg (e0_add (e0_mul e0_c (e0_var rfl) (mul_ok (by omega) (by omega))) e0_c) ?_
    have pH1 : (upd S.H a (.lst [.ref c, .int (t + 1), .int r])) a = some (.lst [.ref c, .int (t + 1), .int r]) := upd_same
    -- a new empty list
    refine e0_ix (e0_var rfl) e0_c pH1 (ix0 _ _) _ ?_
    refine ⟨Nat.zero_le _, fun b hbn => ?_⟩
    have g2 := g1.trans (Gr.newO (o := .lst []) g1.ok hbn)
    have hab : a ≠ b := ne_of_none pH1 hbn
    have cH1 : (upd S.H a (.lst [.ref c, .int (t + 1), .int r])) c = some (.lst (cs.map V.int)) := g1.ok.sub _ _ pF
    have hcb : c ≠ b := ne_of_none cH1 hbn
    have pH2 : (upd (upd S.H a (.lst [.ref c, .int (t + 1), .int r])) b (.lst [])) a = some (.lst [.ref c, .int (t + 1), .int r]) := by rw [upd_ne hab]; exact pH1
    have cH2 : (upd (upd S.H a (.lst [.ref c, .int (t + 1), .int r])) b (.lst [])) c = some (.lst (cs.map V.int)) := by rw [upd_ne hcb]; exact cH1
    generalize hH2 : upd (upd S.H a (.lst [.ref c, .int (t + 1), .int r])) b (.lst []) = H2 at g2 pH2 cH2 ⊢
    have bH2 : H2 b = some (.lst []) := by rw [← hH2]; exact upd_same
    refine .inr (.inr ⟨c, b, cs.map V.int, rfl, rfl, .of cH2, .of bH2, !(cs.map V.int).isEmpty, rfl, ?_⟩)
    have elen : ((cs.map V.int).length : Int) = (cs.length : Int) := by rw [List.length_map]
    have last : ∀ cell : Int, (tSeq (tIfS (tAnd (tTest (tOp (rI0 fun i j => .bl (decide (i < j))) (tVar 3) (tCB (rLenA K) (tCons (tOp (rIx K) (tVar 0) (tC (.int 0))) tNil)))) (tTest (tOp (rI0 fun i j => .bl (decide (j ≤ i))) (tCB rAbs (tCons (tVar 4) tNil)) (tOp (rI CPowI fun i j => .int (i ^ j.toNat)) (tC (.int 10)) (tC (.int 18))))))
        (tSeq (tAsg (tOp (rAddU K) (tOp rMulU (tC (.int 2)) (tOp (rI0 fun i j => .int (i - j)) (tCB rAbs (tCons (tVar 4) tNil)) (tOp (rI CPowI fun i j => .int (i ^ j.toNat)) (tC (.int 10)) (tC (.int 18))))) (tCB rInt1 (tCons (tOp (rI0 fun i j => .bl (decide (i < j))) (tVar 4) (tC (.int 0))) tNil))) (gName 2))
        (tSeq (tAsg (tOp (rI CDiv fun i j => .int (i / j)) (tCB rInt1 (tCons (tVar 2) tNil)) (tVar 1)) (gSub (tVar 0) (tC (.int 2)) rSetL))
        (tRet (tOp (rI (fun _ j => 0 < j) fun i j => .int (i % j)) (tCB rInt1 (tCons (tVar 2) tNil)) (tVar 1)))))
        tNext)
        (tSeq (tAsg (tOp (rI (fun _ j => 0 < j) fun i j => .int (i % j)) (tCB rInt1 (tCons (tOp (rI CPowI fun i j => .int (i ^ j.toNat)) (tOp (rAddU K) (tOp (rAddU K) (tOp (rI (fun _ j => 0 < j) fun i j => .int (i % j)) (tCB rInt1 (tCons (tVar 4) tNil)) (tC (.int 2147483549))) (tOp rMulU (tC (.int a3)) (tVar 3))) (tC (.int a4))) (tC (.int 5))) tNil)) (tC (.int 2147483629))) (gName 5))
        (tSeq (tAsg (tOp (rI (fun _ j => 0 < j) fun i j => .int (i % j)) (tCB rInt1 (tCons (tOp (rI CPowI fun i j => .int (i ^ j.toNat)) (tOp (rAddU K) (tOp (rAddU K) (tOp rMulU (tVar 5) (tOp (rAddU K) (tOp rMulU (tC (.int 2)) (tVar 3)) (tC (.int a5)))) (tOp rMulU (tOp rMulU (tC (.int a6)) (tVar 3)) (tVar 3))) (tC (.int a7))) (tC (.int 3))) tNil)) (tC (.int 2147483587))) (gName 5))
        (tRet (tOp (rI (fun _ j => 0 < j) fun i j => .int (i % j)) (tCB rInt1 (tCons (tOp (rI CDiv fun i j => .int (i / j)) (tVar 5) (tC (.int 64))) tNil)) (tVar 1)))))) { nx := fun _ H' => Q .non H', rt := Q } [some (.ref a), some (.int m), none, some (.int t), some (.int cell), none] H2 := by
      intro cell
      have hpow : Zv (tOp (rI CPowI fun i j => .int (i ^ j.toNat)) (tC (.int 10)) (tC (.int 18))) [some (V.ref a), some (.int m), none, some (.int t), some (.int cell), none] H2 (.int (10 ^ 18)) :=
        e0_I (f := fun i j => i ^ j.toNat) e0_c e0_c (pow_ok (k := 4) (by decide) (by decide) (by decide) (by decide))
      have tst : ∀ Q' : Bool → Hp → Prop, Q' (decide (t < ((cs.map V.int).length : Int)) && decide ((10 : Int) ^ 18 ≤ (if cell < 0 then -cell else cell))) H2 → tAnd (tTest (tOp (rI0 fun i j => .bl (decide (i < j))) (tVar 3) (tCB (rLenA K) (tCons (tOp (rIx K) (tVar 0) (tC (.int 0))) tNil)))) (tTest (tOp (rI0 fun i j => .bl (decide (j ≤ i))) (tCB rAbs (tCons (tVar 4) tNil)) (tOp (rI CPowI fun i j => .int (i ^ j.toNat)) (tC (.int 10)) (tC (.int 18))))) [some (.ref a), some (.int m), none, some (.int t), some (.int cell), none] H2 Q' := fun Q' q => by
        refine t0_test (e0_B0 (f := fun i j => decide (i < j)) (e0_var rfl) (e0_len (e0_ix (e0_var rfl) e0_c pH2 (ix0 _ _)) cH2)) _ ?_
        cases e : decide (t < ((cs.map V.int).length : Int)) with
        | true =>
          rw [e] at q
          exact t0_test (e0_B0 (f := fun i j => decide (j ≤ i)) (e0_abs (e0_var rfl)) hpow) _ q
        | false =>
          rw [e] at q
          exact q
      refine a0_if tst (fun hbig => ?_) (fun _ => ?_)
      · refine a0_asg (e0_add (e0_mul e0_c (e0_I0 (f := fun i j => i - j) (e0_abs (e0_var rfl)) hpow) (mul_okL (by decide) (by decide))) (e0_intB (e0_B0 (f := fun i j => decide (i < j)) (e0_var rfl) e0_c))) ?_
        have hnn : 0 ≤ 2 * ((if cell < 0 then -cell else cell) - 10 ^ 18) + (if decide (cell < 0) = true then (1 : Int) else 0) := by
          rw [Bool.and_eq_true] at hbig
          have h1 := of_decide_eq_true hbig.2
          have h2 : (0 : Int) ≤ (if decide (cell < 0) = true then (1 : Int) else 0) := by split <;> decide
          omega
        refine a0_pen (c := 2) (e0_I (f := fun i j => i / j) (e0_int (e0_var rfl)) (e0_var rfl) ⟨cdv.1, cdv.2⟩) (e0_var rfl) e0_c pH2 rfl ?_
        refine a0_ret (e0_I (f := fun i j => i % j) (e0_int (e0_var rfl)) (e0_var rfl) (by omega)) ?_
        refine fin _ ⟨S.F, upd H2 a (.lst [.ref c, .int (t + 1), .int (_ / m)]), S.T + 1⟩ (g2.trans (pen_chg g2.ok (g2.ff _ _ pF) pl (by omega) (by show t + 1 ≤ ((S.T + 1 : Nat) : Int); omega) (Int.ediv_nonneg hnn (by omega)))) (Nat.le_refl _)
      · show tSeq _ _ _ _ _
        have hc1 := Int.emod_nonneg cell (show (2147483549 : Int) ≠ 0 by decide)
        have hc2 := Int.emod_lt_of_pos cell (show (0 : Int) < 2147483549 by decide)
        have ht9 : t ≤ 1000000000 := by omega
        have m1 : 0 ≤ a3 * t := Int.mul_nonneg b3.1 pt
        have m2 : a3 * t ≤ 1000000 * 1000000000 := Int.mul_le_mul b3.2 ht9 pt (by decide)
        refine a0_asg (e0_I (f := fun i j => i % j) (e0_int (e0_I (f := fun i j => i ^ j.toNat) (e0_add (e0_add (e0_I (f := fun i j => i % j) (e0_int (e0_var rfl)) e0_c (by decide)) (e0_mul e0_c (e0_var rfl) (mul_ok (by omega) (by omega)))) e0_c) e0_c (pow_ok (k := 60) (by omega) (by omega) (by decide) (by decide)))) e0_c (by decide)) ?_
        have hx1 : ∀ z : Int, 0 ≤ z % 2147483629 := fun z => Int.emod_nonneg z (by decide)
        have hx2 : ∀ z : Int, z % 2147483629 < 2147483629 := fun z => Int.emod_lt_of_pos z (by decide)
        generalize hz : (cell % 2147483549 + a3 * t + a4) ^ (5 : Int).toNat % 2147483629 = z
        have hz1 : 0 ≤ z := by rw [← hz]; exact hx1 _
        have hz2 : z < 2147483629 := by rw [← hz]; exact hx2 _
        have m3 : 0 ≤ z * (2 * t + a5) := Int.mul_nonneg hz1 (by omega)
        have m4 : z * (2 * t + a5) ≤ 2147483629 * 3000000000 := Int.mul_le_mul (by omega) (by omega) (by omega) (by decide)
        have m5 : 0 ≤ a6 * t := Int.mul_nonneg b6.1 pt
        have m6 : a6 * t ≤ 1000000 * 1000000000 := Int.mul_le_mul b6.2 ht9 pt (by decide)
        have m7 : 0 ≤ a6 * t * t := Int.mul_nonneg m5 pt
        have m8 : a6 * t * t ≤ 1000000 * 1000000000 * 1000000000 := Int.mul_le_mul m6 ht9 pt (by decide)
        refine a0_asg (e0_I (f := fun i j => i % j) (e0_int (e0_I (f := fun i j => i ^ j.toNat) (e0_add (e0_add (e0_mul (e0_var rfl) (e0_add (e0_mul e0_c (e0_var rfl) (mul_ok (by omega) (by omega))) e0_c) (mul_okL (by omega) (by omega))) (e0_mul (e0_mul e0_c (e0_var rfl) (mul_ok (by omega) (by omega))) (e0_var rfl) (mul_ok (by omega) (by omega)))) e0_c) e0_c (pow_ok (k := 90) (by omega) (by omega) (by decide) (by decide)))) e0_c (by decide)) ?_
        refine a0_ret (e0_I (f := fun i j => i % j) (e0_int (e0_I (f := fun i j => i / j) (e0_var rfl) e0_c ⟨by decide, by decide⟩)) (e0_var rfl) (by omega)) ?_
        exact fin _ ⟨S.F, H2, S.T + 1⟩ g2 (Nat.le_refl _)
    cases hcs : (cs.map V.int).isEmpty with
    | true =>
      show if false = true then _ else _
      rw [if_neg Bool.false_ne_true]
      exact last _
    | false =>
      show if true = true then _ else _
      rw [if_pos rfl]
      have hne : 0 < (cs.map V.int).length := by
        cases hq : cs.map V.int with
        | nil => rw [hq] at hcs; cases hcs
        | cons _ _ => simp
      have hj0 := Int.emod_nonneg t (show ((cs.map V.int).length : Int) ≠ 0 by omega)
      have hj1 := Int.emod_lt_of_pos t (show (0 : Int) < ((cs.map V.int).length : Int) by omega)
      have hat : atI (cs.map V.int) (t % ((cs.map V.int).length : Int)) = some (.int (cs.getD (t % ((cs.map V.int).length : Int)).toNat 0)) := by
        unfold atI ixN
        rw [if_pos hj0, if_pos hj1]
        show (cs.map V.int)[_]? = _
        have hjn : (t % ((cs.map V.int).length : Int)).toNat < cs.length := by
          have e := hj1
          rw [elen] at e ⊢
          omega
        rw [List.getElem?_map, List.getElem?_eq_getElem hjn, List.getD_eq_getElem?_getD, List.getElem?_eq_getElem hjn]
        rfl
      refine a0_asg (e0_ix (e0_ix (e0_var rfl) e0_c pH2 (ix0 _ _)) (e0_I (f := fun i j => i % j) (e0_int (e0_var rfl)) (e0_len (e0_ix (e0_var rfl) e0_c pH2 (ix0 _ _)) cH2) (by omega)) cH2 hat) ?_
      exact last _
end
end DL
namespace DL
open PySem L2
open Evl (Ex)
section
variable {K : PySem.W.Frag} [LT K] {p : Option Addr} {S S0 S1 S2 S3 : Wd} {B : Hp} {σ σ' : L2.St} {te ta tb tc to : TE} {d d1 d2 d3 : D} {ds es : List D} {v : V} {m M n k : Nat} {P P1 P2 : D → Prop} {l l' : En} {i j : Nat} {t : Ty} {G : Ends}
theorem items_len (h : itemsD d = some es) (hz : es.length ≤ sizeLine) : RC K p (rLenA K) [d] (.int (es.length : Int)) := by
  cases d with
  | lst xs => cases h; exact rl_L hz
  | tup xs => cases h; exact rl_T
  | str s =>
    cases h
    have e : (signs s).length = s.length := by unfold signs; rw [List.length_map]; rfl
    rw [e] at hz ⊢
    exact rl_S hz
  | _ => cases h
theorem atI_nat {α : Type} {xs : List α} {r : Int} (h0 : 0 ≤ r) (h1 : r < xs.length) : ∃ x, atI xs r = some x ∧ x ∈ xs := by
  have hn : r.toNat < xs.length := by omega
  refine ⟨xs[r.toNat], ?_, List.getElem_mem hn⟩
  unfold atI ixN
  rw [if_pos h0, if_pos h1]
  exact List.getElem?_eq_getElem hn
/-- some[a draw] -/
theorem en_ix (ha : EvD K p ta σ S d) (hi : itemsD d = some es) (hz : es.length ≤ sizeLine) (hb : EvN K p tb σ S n (fun e => ∃ r : Int, e = .int r ∧ 0 ≤ r ∧ r < es.length)) : EvN K p (tOp (rIx K) ta tb) σ S n (fun e => e ∈ es) := fun S1 g hB Q q =>
  ha S1 g _ fun x S2 g2 t2 rx => hb S2 (g.trans g2) (by omega) _ fun y e S3 g3 t3 ry pe => by
    obtain ⟨r, rfl, h0, h1⟩ := pe
    cases ry
    obtain ⟨z, hz1, hz2⟩ := atI_nat h0 h1
    have rx3 := rx.mono g3.ff
    cases d with
    | lst xs =>
      cases hi
      cases rx3 with
      | @lst a vs _ h2 r2 =>
        obtain ⟨c, h4, h5⟩ := ixN_get hz1
        obtain ⟨x, hx, rx⟩ := r2.get h5
        exact .inl ⟨a, vs, r, x, rfl, rfl, .of (g3.ok.sub _ _ h2), by unfold atI; rw [r2.length, h4]; exact hx, q x z S3 (g2.trans g3) (by omega) rx hz2⟩
    | tup xs =>
      cases hi
      cases rx3 with
      | @tup a vs _ h2 r2 =>
        obtain ⟨c, h4, h5⟩ := ixN_get hz1
        obtain ⟨x, hx, rx⟩ := r2.get h5
        exact .inr (.inl ⟨a, vs, r, x, rfl, rfl, Evl.ex_t g3.ok.sub h2, by unfold atI; rw [r2.length, h4]; exact hx, q x z S3 (g2.trans g3) (by omega) rx hz2⟩)
    | str s =>
      cases hi
      cases rx3
      obtain ⟨c, h4, h5⟩ := ixN_get hz1
      have el : (signs s).length = s.cps.toList.length := by unfold signs; rw [List.length_map]
      unfold signs at h5
      rw [List.getElem?_map] at h5
      obtain ⟨w, hw, ew⟩ := Option.map_eq_some_iff.mp h5
      subst ew
      refine .inr (.inr ⟨s, r, w, rfl, rfl, ?_, ?_, q _ _ S3 (g2.trans g3) (by omega) (.str _) hz2⟩)
      · rw [el] at hz; rw [Array.length_toList] at hz; exact hz
      · unfold atI; rw [← el, h4]; exact hw
    | _ => cases hi
theorem sql_hide {H : Hp} {a : Addr} {xs : List V} (h : SqL K H a xs) (hp : some a ≠ p) : SqL K (hide p H) a xs := by
  rcases h with (h | ⟨o, h⟩) | h
  · exact .inl (.inl (hide_of hp h))
  · exact .inl (.inr ⟨o, hide_of hp h⟩)
  · exact .inr h
def pickT (K : PySem.W.Frag) [LT K] : TS := (tRet (tOp (rIx K) (tVar 1) (tCall (spDraw K) [] E0 (tCons (tVar 0) (tCons (tCB (rLenA K) (tCons (tVar 1) tNil)) tNil)))))
theorem pick_run {vs : List V} {H : Hp} {Q : VK} {E : XK} {N : List Str} (h : spPick K vs H Q E) (hN : N.length = 2) : pickT K { nx := fun _ H' => Q .non H', rt := Q } (L2.start N vs) H := by
  refine fnN h (by rw [hN]; exact Nat.le_refl _) fun S0 a ds σ G hn hp st k => ?_
  match ds, hn, hp, st, k with
  | [d], _, ⟨es, he, hne, hl⟩, st, k =>
  have he : itemsD d = some es := he
  have hz : es.length ≤ sizeLine := Nat.le_trans hl (by rw [sizeLine_eq]; decide)
  have h0 : 0 < es.length := List.length_pos_iff.mpr hne
  refine s_retN (P := fun e => e ∈ es) st (en_ix (n := 1) (ed_var st rfl) he hz ?_) (by omega) (fun v d' S' hd g ht r => k v d' S' ⟨es, he, hd⟩ g (by omega) r)
  have hd1 : EvD K (some a) (tVar 1) σ S0 d := ed_var st rfl
  have hp : ∃ m : Int, dAt [.int (es.length : Int)] 0 = .int m ∧ 1 ≤ m ∧ m ≤ 1000000 := ⟨_, rfl, by omega, by omega⟩
  refine EvN.le (en_call (n := 1) (N := 1) (ds := [.int (es.length : Int)]) (ev_var st rfl) (ea_cons (ed_len (EvD.h hd1) (items_len he hz)) ea_nil) rfl hp) (Nat.le_refl _) ?_
  rintro e ⟨r, m, rfl, hm, h1, h2⟩
  cases hm
  exact ⟨r, rfl, h1, h2⟩
/-- the pen is laid -/
def penT (K : PySem.W.Frag) [LT K] : TS := (tRet (tLst (tCons (tLc (iList K (tSl (rSlL K) (tVar 0) tNoPart (tPart (tC (.int 63))))) (gName 1) tYes (tCB rInt1 (tCons (tVar 1) tNil)) [1]) (tCons (tC (.int 0)) (tCons (tC (.int 0)) tNil)))))
theorem cut63 {xs : List D} (h : xs.length ≤ 63) : cutL xs none (some 63) = xs := by
  have e : HT.sIx xs.length xs.length (some 63) = xs.length := by
    show HT.sIx xs.length xs.length (some ((63 : Nat) : Int)) = _
    rw [HT.sIx_nat]
    omega
  unfold cutL
  rw [e]
  show (xs.drop 0).take (xs.length - 0) = xs
  rw [List.drop_zero, Nat.sub_zero, List.take_length]
theorem pen_run {vs : List V} {H : Hp} {Q : VK} {E : XK} {N : List Str} (h : spPen K vs H Q E) (hN : N.length = 2) : penT K { nx := fun _ H' => Q .non H', rt := Q } (L2.start N vs) H := by
  obtain ⟨a, ns, F, rfl, hs, hl, ok, k⟩ := h
  have st : Sta K none ⟨F, H, 0⟩ F N.length 0 0 (L2.start N [V.ref a]) ⟨F, H, 0⟩ [(0, .val (.ref a))] := by
    refine ⟨ok, Gr.refl ok, fun _ _ q => q, start_len (by rw [hN]; exact Nat.le_succ 1), Nat.zero_le _, Nat.le_refl _, fun q hq => ?_, fun x hx b hb ne oa => ?_⟩
    · rw [List.mem_singleton.mp hq]
      exact ⟨.ref a, start_get rfl, rfl⟩
    · rw [List.mem_singleton.mp hx] at oa
      cases oa
  have hln : (ns.map D.int).length ≤ 63 := by rw [List.length_map]; exact hl
  have sl : EvD K none (tSl (rSlL K) (tVar 0) tNoPart (tPart (tC (.int 63)))) (L2.start N [V.ref a]) ⟨F, H, 0⟩ (.lst (ns.map D.int)) := by
    refine EvO.ed ?_
    intro S1 g Q q
    refine ev_var st rfl S1 g _ fun S2 g2 t2 => ?_
    refine ⟨63, rfl, a, ns.map V.int, rfl, Evl.ex_l hide_ex (Evl.ex_l (g.trans g2).hid (sql_hide hs (by intro z; cases z))), fun A hA => ?_⟩
    have r : Rps K S2.F (ns.map V.int) (ns.map D.int) := Rps.ints ns
    have r2 := r.cut none (some 63)
    rw [cut63 hln] at r2
    exact q A _ ⟨S2.F, upd S2.H A (.lst (cutV (ns.map V.int) none (some 63))), S2.T⟩ (g2.trans (Gr.newO g2.ok hA)) t2 (g2.fresh hA) upd_same (g2.ok.freshF hA) r2
  have lc : EvO K none (tLc (iList K (tSl (rSlL K) (tVar 0) tNoPart (tPart (tC (.int 63))))) (gName 1) tYes (tCB rInt1 (tCons (tVar 1) tNil)) [1]) (L2.start N [V.ref a]) ⟨F, H, 0⟩ (ns.map D.int) := by
    have := eo_lc (i := 1) (vs := [1]) (b := fun _ => true) (f := fun d => d) st (es_list sl) (by rw [hN]; decide) (by decide) (te := tCB rInt1 (tCons (tVar 1) tNil)) (tt := tYes) (fun d hd B' n' σ' S' st' => ⟨et_yes, fun _ => by
      obtain ⟨z, _, rfl⟩ := List.mem_map.mp hd
      exact ed_cb (eh_cons (EvD.h (ed_var st' rfl)) eh_nil) rc_intI⟩) (by rw [sizeLine_eq]; omega)
    have e : ∀ l : List D, (l.filter fun _ => true).map (fun d => d) = l := fun l => by induction l with
      | nil => rfl
      | cons x r ih => rw [List.filter_cons, if_pos rfl, List.map_cons, ih]
    rw [e] at this
    exact this
  refine (eo_lst (ea_cons lc.ed (ea_cons ed_int (ea_cons ed_int ea_nil))) (by rw [sizeLine_eq]; exact Nat.le_of_ble_eq_true rfl)) ⟨F, H, 0⟩ (Gr.refl ok) _ fun q vs S2 g2 t2 h0 h1 h2 r => ?_
  cases r with
  | cons r1 r => cases r with
    | cons r2 r => cases r with
      | cons r3 r =>
        cases r
        cases r2
        cases r3
        cases r1 with
        | @lst c xs _ h3 r4 =>
          have e := r4.ints_inv
          subst e
          have eT : S2.T = 0 := by have : S2.T ≤ 0 := t2; omega
          have g3 : Gr K none ⟨F, H, 0⟩ ⟨S2.F, S2.H, 0⟩ := by obtain ⟨F2, H2, T2⟩ := S2; cases (show T2 = 0 from eT); exact g2
          exact k q c S2.F S2.H g3 h3 h1 h2 h0
end
end DL
namespace DL
open PySem L2
open Evl (Ex)
section
variable {K : PySem.W.Frag} [LT K] {p : Option Addr} {S S0 S1 S2 S3 : Wd} {B : Hp} {σ σ' : L2.St} {te ta tb tc to : TE} {d d1 d2 d3 : D} {ds es : List D} {v : V} {m M n k : Nat} {P P1 P2 : D → Prop} {l l' : En} {i j : Nat} {t : Ty} {G : Ends}
theorem rd_eqI {a b : Int} : RD K p (rEqU K) (.int a) (.int b) (.bl (decide (a = b))) := RD.inl (rd_of (fun _ => .bl _) fun S1 x y o rx ry Q q => by
  cases rx; cases ry
  have e : decide (V.int a = V.int b) = decide (a = b) := by
    by_cases h : a = b
    · subst h; simp
    · rw [decide_eq_false h, decide_eq_false (fun z => h (V.int.inj z))]
  exact ⟨rfl, by rw [e]; exact q⟩)
/-! ## what is walked is drawn -/
def EvSN (K : PySem.W.Frag) [LT K] (p : Option Addr) (wi : TI) (σ : L2.St) (S : Wd) (n : Nat) (P : List DL.D → Prop) : Prop := ∀ S1, Gr K p S S1 → S1.T + n ≤ 1000000000 → ∀ R : It → Hp → Prop, (∀ J ds S2, Gr K p S1 S2 → S2.T ≤ S1.T + n → P ds → Src K p J S2.F ds → R J S2.H) → wi σ S1.H R
theorem es_rng1N (h : EvN K p te σ S n (fun d => ∃ z : Int, d = .int z ∧ 0 ≤ z ∧ z < 2 ^ 62 ∧ P (.int z))) : EvSN K p (iRng1 (tCons te tNil)) σ S n (fun ds => ∃ z : Int, ds = rng 0 z.toNat ∧ 0 ≤ z ∧ P (.int z)) := fun S1 g hb R q => h S1 g hb _ fun v d S2 g2 t2 r hp => by
  obtain ⟨z, rfl, h0, h1, pz⟩ := hp
  cases r
  exact ⟨z, rfl, Int.le_trans (by decide) h0, h1, q _ (rng 0 z.toNat) S2 g2 t2 ⟨z, rfl, h0, pz⟩ src_rng⟩
theorem rng_len {lo : Int} {n : Nat} : (rng lo n).length = n := by unfold rng; rw [List.length_map, List.length_range]
theorem en_lcN {wi : TI} {vs : List Nat} {w L : Nat} {PS : List DL.D → Prop} {R : DL.D → DL.D → Prop} (h : Sta K p S0 B m M n σ S l) (hq : EvSN K p wi σ S k PS) (hi : i < m) (hv : vs.contains i = true) (hL : ∀ ds, PS ds → ds.length ≤ L) (hz : L < sizeLine)
    (he : ∀ ds, PS ds → ∀ d ∈ ds, ∀ B' n' σ' S', Sta K p S0 B' m M n' σ' S' (put i (.dat d) (l.filter fun q => !vs.contains q.1)) → EvN K p te σ' S' w (R d)) :
    EvON K p (tLc wi (gName i) tYes te vs) σ S (k + L * w) (fun es => ∃ ds, PS ds ∧ es.length = ds.length ∧ ∀ (c : Nat) (d e : DL.D), ds[c]? = some d → es[c]? = some e → R d e) := by
  intro S1 g1 hB Q q
  refine hq S1 g1 (by omega) _ fun J ds S2 g2 t2 ps src => ?_
  have st2 := h.any (g1.trans g2)
  have hw : ds.length * w ≤ L * w := Nat.mul_le_mul_right w (hL ds ps)
  have hs : EvS K p (fun _ H R => R J H) σ S2 ds := fun S3 g3 R q => q J S3 (Gr.refl g3.ok) (Nat.le_refl _) fun S' e o c => src S' (g3.ff.trans e) o c
  have main := en_lc (wi := fun _ H R => R J H) (w := w) (R := R) st2 hs hi hv (he ds ps) (Nat.lt_of_le_of_lt (hL ds ps) hz) S2 (Gr.refl g2.ok) (by omega) Q (fun a us es S3 g3 t3 h0 h1 h2 r hp => q a us es S3 (g2.trans g3) (by omega) (g2.fresh h0) h1 h2 r ⟨ds, ps, hp⟩)
  exact main
theorem en_join {a : Str} {PS : List DL.D → Prop} (ha : EvD K p ta σ S (.str a)) (hb : EvON K p tb σ S n PS) (hz : ∀ ds, PS ds → ∃ ys : List Str, ds = ys.map DL.D.str ∧ (ys.map (·.length)).sum + ys.length * a.length ≤ 16777216) :
    EvN K p (tM1 (rJoin K) ta tb) σ S n (fun d => ∃ ys : List Str, PS (ys.map DL.D.str) ∧ d = .str (Txt.join a ys)) := fun S1 g hB Q q =>
  ha S1 g _ fun x S2 g2 t2 r2 => by
    cases r2
    refine ⟨⟨a, rfl⟩, hb S2 (g.trans g2) (by omega) _ fun y xs ds S3 g3 t3 h0 h1 h2 r3 ps => ?_⟩
    obtain ⟨ys, rfl, hz⟩ := hz ds ps
    have e := r3.strs_inv
    subst e
    exact ⟨a, y, ys, rfl, rfl, .inl (.of h1), hz, q _ _ S3 (g2.trans g3) (by omega) (.str _) ⟨ys, ps, rfl⟩⟩
end
theorem str_len_app (a b : Str) : (a ++ b).length = a.length + b.length := Array.size_append
theorem join_len (y : Str) : ∀ parts : List Str, (Str.join y parts).length ≤ (parts.map (·.length)).sum + parts.length * y.length
  | [] => Nat.zero_le _
  | [x] => by
    show x.length ≤ ([x].map (·.length)).sum + 1 * y.length
    rw [List.map_cons, List.map_nil, List.sum_cons, List.sum_nil]
    omega
  | x :: z :: r => by
    have ih := join_len y (z :: r)
    show (x ++ y ++ Str.join y (z :: r)).length ≤ _
    rw [str_len_app, str_len_app, List.map_cons, List.sum_cons, List.length_cons, Nat.add_mul, Nat.one_mul]
    omega
theorem strs_of {P : Str → Prop} : ∀ {es : List D}, (∀ e ∈ es, ∃ s, e = .str s ∧ P s) → ∃ ys : List Str, es = ys.map D.str ∧ ∀ y ∈ ys, P y
  | [], _ => ⟨[], rfl, fun y hy => by cases hy⟩
  | e :: es, h => by
    obtain ⟨s, rfl, ps⟩ := h e List.mem_cons_self
    obtain ⟨ys, rfl, q⟩ := strs_of fun e he => h e (List.mem_cons_of_mem _ he)
    refine ⟨s :: ys, rfl, fun y hy => ?_⟩
    rcases List.mem_cons.mp hy with rfl | hy
    · exact ps
    · exact q y hy
theorem lc_all {ds es : List D} {R : D → D → Prop} (hl : es.length = ds.length) (h : ∀ (c : Nat) (d e : D), ds[c]? = some d → es[c]? = some e → R d e) : ∀ e ∈ es, ∃ d ∈ ds, R d e := fun e he => by
  obtain ⟨c, hc⟩ := List.mem_iff_getElem?.mp he
  have hlt : c < ds.length := by rw [← hl]; exact (List.getElem?_eq_some_iff.mp hc).1
  exact ⟨ds[c], List.getElem_mem hlt, h c _ _ (List.getElem?_eq_getElem hlt) hc⟩
theorem sum_le {n : Nat} : ∀ {ys : List Str}, (∀ y ∈ ys, y.length ≤ n) → (ys.map (·.length)).sum ≤ ys.length * n
  | [], _ => Nat.zero_le _
  | y :: ys, h => by
    have ih := sum_le (ys := ys) fun y hy => h y (List.mem_cons_of_mem _ hy)
    have h1 := h y List.mem_cons_self
    rw [List.map_cons, List.sum_cons, List.length_cons, Nat.add_mul, Nat.one_mul]
    omega
end DL
namespace DL
open PySem L2
open Evl (Ex)
section
variable {K : PySem.W.Frag} [LT K] {p : Option Addr} {S S0 S1 S2 S3 : Wd} {B : Hp} {σ σ' : L2.St} {te ta tb tc to : TE} {d d1 d2 d3 : D} {ds es : List D} {v : V} {m M n k : Nat} {P P1 P2 : D → Prop} {l l' : En} {i j : Nat} {t : Ty} {G : Ends}
theorem ed_pow {x n : Int} {k : Nat} (h1 : EvD K p ta σ S (.int x)) (h2 : EvD K p tb σ S (.int n)) (hk : CPowI x n) : EvD K p (tOp (rI CPowI fun i j => .int (i ^ j.toNat)) ta tb) σ S (.int (x ^ n.toNat)) := ed_op h1.h h2.h (rd_I (f := fun i j => i ^ j.toNat) hk)
theorem rep3 (a b c : Bool) : RC K p (rRepr K) [.lst [.bl a, .bl b, .bl c]] (.str (D.lst [.bl a, .bl b, .bl c]).py.shown) :=
  rc_reprL (by cases a <;> cases b <;> cases c <;> decide +kernel) (by cases a <;> cases b <;> cases c <;> decide +kernel) (by cases a <;> cases b <;> cases c <;> decide +kernel) (by cases a <;> cases b <;> cases c <;> decide +kernel) (by rw [sizeLine_eq]; cases a <;> cases b <;> cases c <;> decide +kernel)
end
end DL
namespace DL
open PySem L2
open Evl (Ex)
theorem pls_strs : ∀ ss : List Str, D.pls (ss.map D.str) = true
  | [] => by simp [D.pls]
  | s :: ss => by simp [D.pls, D.pl, pls_strs ss]
theorem pys_strs : ∀ ss : List Str, D.pys (ss.map D.str) = ss.map PyData.str
  | [] => by simp [D.pys]
  | s :: ss => by simp [D.pys, D.py, pys_strs ss]
theorem canLay_strs : ∀ ss : List Str, (∀ s ∈ ss, PyData.strOk s = true) → PyData.canLayAll0 (ss.map PyData.str) = true
  | [], _ => by simp [PyData.canLayAll0]
  | s :: ss, h => by
    have h1 := h s List.mem_cons_self
    have h2 := canLay_strs ss fun x hx => h x (List.mem_cons_of_mem _ hx)
    simp [PyData.canLayAll0, PyData.canLay0, h1, h2]
theorem sh_strs (ss : List Str) (h : ∀ s ∈ ss, PyData.strOk s = true) : (D.lst (ss.map D.str)).sh = true := by
  have e : (D.lst (ss.map D.str)).py = .list (ss.map PyData.str) := by simp only [D.py, pys_strs]
  have hd : ∀ ss : List Str, PyData.depthAll (ss.map PyData.str) = 0 := by
    intro ss
    induction ss with
    | nil => simp [PyData.depthAll]
    | cons x r ih => simp [PyData.depthAll, PyData.depth, ih]
  unfold D.sh
  rw [e, Bool.and_eq_true]
  refine ⟨by simp only [D.pl]; exact pls_strs ss, ?_⟩
  unfold SeqAt.shaped
  rw [Bool.and_eq_true]
  refine ⟨?_, decide_eq_true ?_⟩
  · simp only [PyData.canLay0]; exact canLay_strs ss h
  · simp only [PyData.depth, hd]; decide
section
variable {K : PySem.W.Frag} [LT K] {p : Option Addr} {S S0 S1 S2 S3 : Wd} {B : Hp} {σ σ' : L2.St} {te ta tb tc to : TE} {d d1 d2 d3 : D} {ds es : List D} {v : V} {m M n k : Nat} {P P1 P2 : D → Prop} {l l' : En} {i j : Nat} {t : Ty} {G : Ends}
theorem rd_eqSame (h : d.sh = true) : RD K p (rEqU K) d d (.bl true) := by
  have q := rd_eqU (K := K) (p := p) h h
  have e : eqD d d = true := PySem.SeqAt.eqv_refl _ (PySem.SeqAt.canLay_of_shaped (D.sh_sh h))
  rw [e] at q
  exact q
theorem ed_disp1 {a : Str} {z : Int} : EvOD K p (tDisp [((tC (.str a)), (tC (.int z)))]) σ S [(.inr a, .int z)] := fun S1 g Q q => by
  intro A hA
  refine ⟨upd_same, [(.inr a, .int z)], rfl, Nat.le_of_ble_eq_true rfl, ?_⟩
  have e : upd (upd S1.H A (.dK [])) A (.dK (mergeK [] [(.inr a, V.int z)])) = upd S1.H A (.dK [(.inr a, V.int z)]) := by
    funext b
    by_cases h : b = A
    · subst h; rw [upd_same, upd_same]; rfl
    · rw [upd_ne h, upd_ne h, upd_ne h]
  rw [e]
  exact q A [(.inr a, .int z)] ⟨S1.F, upd S1.H A (.dK [(.inr a, V.int z)]), S1.T⟩ (Gr.newO g.ok hA) (Nat.le_refl _) hA upd_same (g.ok.freshF hA) rfl (.cons (.int z) .nil)
end
theorem addU_mem {α : Type} [DecidableEq α] (l : List α) (x y : α) : y ∈ addU l x ↔ y ∈ l ∨ y = x := by
  unfold addU
  split
  · rename_i h
    obtain ⟨z, hz, e⟩ := List.any_eq_true.mp h
    have e2 := of_decide_eq_true e
    subst e2
    exact ⟨fun q => .inl q, fun q => q.elim id fun e => by rw [e]; exact hz⟩
  · rw [List.mem_append, List.mem_singleton]
theorem uniq_mem {α : Type} [DecidableEq α] (l : List α) (y : α) : y ∈ uniq l ↔ y ∈ l := by
  unfold uniq
  have : ∀ (l acc : List α), y ∈ l.foldl addU acc ↔ y ∈ acc ∨ y ∈ l := by
    intro l
    induction l with
    | nil => intro acc; simp
    | cons x r ih =>
      intro acc
      rw [List.foldl_cons, ih, addU_mem, List.mem_cons, or_assoc]
  rw [this l []]
  simp
end DL
namespace DL
open PySem PySem.Spec PyProof.Rows L2 LamX NdefX
/-! ## an own exception's __init__ that says super().__init__(..) first -/
structure SInit (P : Program) (K : PySem.W.Frag) (mg : Str → Option Value) (fI : Addr) (F : NF) (slf : Str) (D cc : Addr) (doc pm ctv oc : Value) (od : Option Addr) (osl : Array (Option Value)) : Prop where
  fn : K.lookup fI = some ⟨oc, od, .func (F.fd doc pm ctv), osl⟩
  code : PySem.W.codeIn K (.ref F.c) F.qual = true
  cobj : ∃ (cl : Value) (cd : Option Addr) (vs : Array Value) (cs : Array (Option Value)) (file : Str) (tf : Tok), K.lookup F.c = some ⟨cl, cd, .fields vs, cs⟩ ∧ vs[2]? = some (.str file tf) ∧ ((P.main.file : Str) == file) = true
  cl : F.cl = [(("__class__" : Str), cc)]
  cell : ∃ (cl : Value) (cd : Option Addr) (cs : Array (Option Value)), K.lookup cc = some ⟨cl, cd, .cell (some (.ref D)), cs⟩
  cls : ∃ cd, PySem.W.clsIn K D = some cd
  sup : mg "super" = none
  top : (P.main.scope.names.lookup ("super" : Str)).isSome = false
  par : ∃ ar, ((F.fd doc pm ctv).params.posonlyargs ++ (F.fd doc pm ctv).params.args).head? = some ar ∧ ar.arg = slf
  ks : F.scope.names.lookup ("super" : Str) = some .globalImplicit
  any : PySem.W.nsIn K PySem.cStatics "thirdparty.any" = some none
/-- a class below D whose __init__ behind D's is ValueError's -/
structure SCls (K : PySem.W.Frag) (D C : Addr) : Prop where
  T : OexC K C
  sub : PySem.W.mroIn K C (.ref D) = some true
  find : PySem.W.ks_superIn K C D "__init__" = some (some (.builtin "ValueError.__init__"))
  ve : PySem.W.subIn K (.ref C) (.type "ValueError") = some true
def tSI (K : PySem.W.Frag) (D : Addr) (ta : TA) (tr : TS) : TS := fun En σ H => ∃ a C : Addr, σ[0]? = some (some (.ref a)) ∧ SCls K D C ∧ H a = some (exo a C none) ∧
  ta σ H fun vs H1 => vs.length ≤ sizeLine ∧ H1 a = some (exo a C none) ∧ tr En σ H1
section
variable {CX : CXT} {P : Program} {w : World} {K : PySem.W.Frag} {mg : Str → Option Value} {base : Heap} {N ps : List Str} {F : NF} {fI D cc : Addr} {slf : Str} {doc pm ctv oc : Value} {od : Option Addr} {osl : Array (Option Value)}
theorem sinit_run {e : Expr} {es : List Expr} {rest : List Stmt} {p0 p1 p2 p4 p5 : Pos} {ta : TA} {tr : TS} (SI : SInit P K mg fI F slf D cc doc pm ctv oc od osl) (S : NScope N (slf :: ps) ["__class__"] F.scope)
    (hbody : F.body = .Expr (.Call (.Attribute (.Call (.Name "super" p0) [] [] p1) "__init__" p2) (e :: es) [] p4) p5 :: rest)
    {A : Around} {outer : List Env} {s : Shared} {H : Hp} {args : Args} {us : List Value} {vs : List V} {Q : VK} {E : XK} (hr : Room 1 A) (e0 : Env0 P w K mg base A outer s H) (hb : BindsTo s (F.fd doc pm ctv) args ((slf :: ps).zip us)) (hv : Vals vs us) (hl : vs.length = (slf :: ps).length)
    (ha : PA (ncx CX P w K mg base N F fI A outer s H E) (e :: es) ta) (hrest : PSs (ncx CX P w K mg base N F fI A outer s H E) rest tr)
    (h : tSI K D ta tr { nx := fun _ H' => Q .non H', rt := Q } (startF N vs [none]) H)
    (he : starEach (e :: es) (envF F fI s.heap.objs.size) = (false, eval e (envF F fI s.heap.objs.size)) :: starEach es (envF F fI s.heap.objs.size) := by rfl) (hpl : ∀ pos, (backTo pos (starEach es (envF F fI s.heap.objs.size))).any (·.1) = false := by intro _; rfl)
    (hi : interactive (envF F fI s.heap.objs.size) = false := by rfl) {pl : Sem Bool}
    (hc : eval (.Call (.Attribute (.Call (.Name "super" p0) [] [] p1) "__init__" p2) (e :: es) [] p4) (envF F fI s.heap.objs.size) = (do
      let ov ← attributeBase (.Call (.Name "super" p0) [] [] p1) "__init__" (envF F fI s.heap.objs.size) (eval (.Call (.Name "super" p0) [] [] p1) (envF F fI s.heap.objs.size))
      standAt p2.atName
      let (f, first) ← holding [ov] (getMethod ov "__init__" pl)
      callWith p4 f first (backTo p4 (starEach (e :: es) (envF F fI s.heap.objs.size))) []) := by rfl) :
    codeAny (model P w) A (.call (.ref fI) args) (CR CX outer P w H s Q E) s := by
  have KX : K.In s.heap := e0.mod.kin.keeps fun b o e => (e0.bs b o e).1
  have lim : s.heap.NoLimit := e0.mod.nolimit.keeps fun b o e => (e0.bs b o e).1
  obtain ⟨ccl, ccd, cvs, ccs, file, tf, hco, hvs2, hfile⟩ := SI.cobj
  obtain ⟨cecl, cecd, cecs, hcell⟩ := SI.cell
  obtain ⟨cdD, hclsD⟩ := SI.cls
  obtain ⟨ar, hpar, har⟩ := SI.par
  have hcc : H cc = none := (e0.bs cc _ (e0.mod.kin _ _ hcell)).2
  have C0 : CellsAt F.cl ["__class__"] [none] s.heap H := by
    rw [SI.cl]
    refine ⟨rfl, fun y c hy => ?_, fun x y c hx hy => ?_, fun i y hy => ?_⟩
    · have q := PySem.mem_of_lookup hy
      simp only [List.mem_singleton, Prod.mk.injEq] at q
      obtain ⟨_, rfl⟩ := q
      exact ⟨hcc, _, _, KX _ _ hcell, rfl⟩
    · have q1 := PySem.mem_of_lookup hx
      have q2 := PySem.mem_of_lookup hy
      simp only [List.mem_singleton, Prod.mk.injEq] at q1 q2
      rw [q1.1, q2.1]
    · match i, hy with
      | 0, hy =>
        simp at hy
        subst hy
        exact ⟨cc, rfl, fun v hv => by simp at hv⟩
      | i + 1, hy => simp at hy
  refine PySem.ks_codeAny_call_defAt (fd := F.fd doc pm ctv) (body := F.body) (binds := (slf :: ps).zip us) hr.depth (KX _ _ SI.fn) rfl lim (PySem.W.codeRec_of KX SI.code) rfl hb S.nocell (fun ⟨n, _⟩ hy => S.par n (List.of_mem_zip hy).1) (fun h₀ hns kp => ?_) S.co S.gen S.kind
  have I0 : Inv (ncx CX P w K mg base N F fI A outer s H E) [] (startF N vs [none]) H { s with heap := h₀, toks := s.toks + ((slf :: ps).zip us).length } := inv_startN S hr.hd e0 hl hv C0 hns kp
  obtain ⟨a, C, hs0, SC, hH, hq⟩ := h
  obtain ⟨u, us', rfl, hva⟩ : ∃ u us', us = u :: us' ∧ u = .ref a := by
    cases hv with
    | nil => simp at hl
    | cons r rs =>
      unfold startF at hs0
      simp only [List.map_cons, List.cons_append, List.getElem?_cons_zero, Option.some.injEq] at hs0
      subst hs0
      exact ⟨_, _, rfl, r⟩
  subst hva
  have kiC : F.scope.names.lookup ("__class__" : Str) = some .free := S.frk _ (by simp)
  have hu0 : (((slf :: ps).zip (.ref a :: us')).reverse).lookup slf = some (.ref a) := by
    have ndP : (slf :: ps).Nodup := by
      have q := S.nd.sublist (List.take_sublist ((slf :: ps).length + (["__class__"] : List Str).length) N)
      rw [S.pre] at q
      exact (List.nodup_append.mp q).1
    exact zip_look (i := 0) ndP rfl rfl
  obtain ⟨t1, ho⟩ := exo_at I0.hok hH
  rw [hbody]
  obtain ⟨mb, hnb, hbb⟩ := I0.mod.blt
  refine PySem.ks_wpAt_execs_cons (PySem.ks_wpAt_Expr_any (PySem.ks_wpAt_MethodCall (PySem.ks_wpAt_super_base (env := envF F fI s.heap.objs.size) SI.ks kiC rfl rfl (I0.kIn _ _ SI.fn) rfl hpar rfl (I0.kIn _ _ hco) rfl hvs2 hfile SI.top ?_) hc) hi)
  refine PySem.W.ks_loadName_global S.kind SI.ks (PySem.Calls.loadGlobal_builtin (env := envF F fI s.heap.objs.size) (I0.mod.glob.keeps I0.bk) SI.sup (hnb.keeps I0.bk) ((hbb _ (by decide)).trans (by decide +kernel : bootBuiltins "super" = some (.type "super"))) ⟨rfl, ?_⟩)
  refine wpAny_loadName_free (c := cc) S.kind kiC (by show F.cl.lookup _ = _; rw [SI.cl]; rfl) ⟨_, I0.kIn _ _ hcell, rfl⟩ ?_
  rw [har]
  refine wpAny_loadName_local S.kind (S.par slf (by simp)) hns hu0 ?_
  obtain ⟨oD, hD1, hD2⟩ : ∃ oD, h₀.get? D = some oD ∧ oD.data = .cls cdD := by
    have kin := I0.kIn
    unfold PySem.W.clsIn at hclsD
    split at hclsD
    · rename_i c d cd' sl ho
      cases hclsD
      exact ⟨_, kin _ _ ho, rfl⟩
    · cases hclsD
  refine PySem.ks_wpAny_isType_cls hD1 hD2 ⟨rfl, ?_⟩
  refine PySem.ks_wpAny_call_super hD1 hD2 ho rfl (fun c z => by cases z) (PySem.W.looks_mroIn I0.kIn SC.sub) (fun h1 hso k1 => ?_)
  have I1 : Inv (ncx CX P w K mg base N F fI A outer s H E) [] (startF N vs [none]) H { s with heap := h1, toks := s.toks + ((slf :: ps).zip (Value.ref a :: us')).length } := I0.kept k1
  have ho1 := k1 _ _ ho
  obtain ⟨nm, q, NN, bs, bm, sn, sub, ab, col, dd, k0, k1', k2, k3, k5, hC, hbm⟩ := SC.T.cls
  have hcl : PySem.W.clsIn K C = some { name := nm, bases := bs, mro := .ref C :: bm, ns := NN, qualname := q, hasDict := true, slotNames := sn, subclasses := sub, abstract := ab, collection := col, hasDel := false } := by unfold PySem.W.clsIn; rw [hC] <;> rfl
  have IA : PySem.W.InstAt h1 a _ C none := ⟨ho1, rfl, rfl, trivial⟩
  have hm := SC.find
  unfold PySem.W.ks_superIn at hm
  rw [hcl] at hm
  refine PySem.W.kxs_getMethod PySem.W.kxs_ValueError hso (PySem.W.looks_opaque I1.kIn SI.any) (l₀ := .ref C :: bm) (fun A Q E s k q => wpAny_bind ((PySem.W.looks_clsIn I1.kIn hcl) A _ E s k (wpAny_pure q))) rfl I1.kIn hm (IA.type.andThen (PySem.W.looks_subIn I1.kIn SC.ve)) (PySem.W.ks_ne I1.kIn IA hcl) rfl ?_
  have hu2 : (h1.push (PySem.W.kxs_mw "ValueError.__init__" a)).get? h1.objs.size = some (PySem.W.kxs_mw "ValueError.__init__" a) := Heap.get?_push_at rfl rfl
  have I2 : Inv (ncx CX P w K mg base N F fI A outer s H E) [] (startF N vs [none]) H { s with heap := h1.push (PySem.W.kxs_mw "ValueError.__init__" a), toks := s.toks + ((slf :: ps).zip (Value.ref a :: us')).length + 1 } := I1.kept (t' := s.toks + ((slf :: ps).zip (Value.ref a :: us')).length + 1) fun b o e => Heap.get?_push_of_some _ e
  have nofr : ∀ f, h1.objs.size ≤ f → f ∉ frs (ncx CX P w K mg base N F fI A outer s H E).stack := fun f hf z => by
    rcases List.mem_cons.mp (I1.stkSub _ z) with e | e
    · have h1 := I1.lt
      rw [← e] at h1
      exact Nat.lt_irrefl _ (Nat.lt_of_lt_of_le h1 hf)
    · exact I1.nofs hf e
  have I3 : Inv (ncx CX P w K mg base N F fI A outer s H E) [(h1.objs.size, PySem.W.kxs_mw "ValueError.__init__" a)] (startF N vs [none]) H { s with heap := h1.push (PySem.W.kxs_mw "ValueError.__init__" a), toks := s.toks + ((slf :: ps).zip (Value.ref a :: us')).length + 1 } :=
    I2.pins_of fun p hp => by
      rcases List.mem_singleton.mp hp with rfl
      refine ⟨hu2, I1.hok.fresh (Nat.le_refl _), fun z => ?_, ?_, fun v z => by cases z⟩
      · exact Nat.lt_irrefl _ (Nat.lt_of_lt_of_le I1.lt (Nat.le_of_eq z))
      · exact fun z => I1.nofs (Nat.le_refl _) z
  show wpAny (model P w) _ (callWith p4 (.ref h1.objs.size) [] (backTo p4 (starEach (e :: es) (envF F fI s.heap.objs.size))) []) _ _ _
  refine PySem.W.kxs_callWith (i := "ValueError.__init__") (x := a) (u := h1.objs.size) (by rw [he]; exact (Bool.false_or _).trans (hpl p4)) ?_
  rw [he]
  refine PySem.Calls.evalArgs_plain ?_
  have haa := ha.run p4 _ _ _ _ _ I3 hq
  rw [show (ncx CX P w K mg base N F fI A outer s H E).env = envF F fI s.heap.objs.size from rfl, he] at haa
  refine thn haa fun us2 s2 hAP => ?_
  obtain ⟨vs2, H2, I4, r2, hl2, hH2, hq2⟩ := hAP
  have hu4 : s2.heap.get? h1.objs.size = some (PySem.W.kxs_mw "ValueError.__init__" a) := (I4.pin (h1.objs.size, PySem.W.kxs_mw "ValueError.__init__" a) (List.mem_append_right _ (List.mem_singleton.mpr rfl))).1
  refine ⟨hu4, ?_⟩
  have hl2' : us2.length ≤ sizeLine := by rw [← r2.length]; exact hl2
  obtain ⟨t4, ho4⟩ := exo_at I4.hok hH2
  obtain ⟨hp, g, d, tk, os⟩ := s2
  refine wpAny_call (codeAny_of_tree ?_)
  show wpAny _ _ (callAny (.ref h1.objs.size) ⟨[] ++ us2, []⟩) _ _ _
  simp only [callAny]
  refine wpAny_bind (wpAny_load hu4 ?_)
  simp only [PySem.W.kxs_mw, show (Value.type "method-wrapper" == Value.type "method" || Value.type "method-wrapper" == Value.type "builtin_function_or_method" || Value.type "method-wrapper" == Value.type "method-wrapper") = true by decide, if_true]
  refine PySem.W.KFB.if_so (by decide) ?_
  refine wpAny_bind (PySem.W.check_bound_init PySem.F.excBase_ValueError.toExcCallFacts (I4.kIn _ _ hC) ho4 rfl ?_)
  refine wpAny_bind (wpAny_pure (wpAny_pure ?_))
  refine ⟨plainId_quiet PySem.F.excBase_ValueError.init.plain _, codeAny_builtin PySem.F.excBase_ValueError.initEntry ?_⟩
  refine PySem.W.exc_init_tree (cls := .ref C) (t0 := t4) (dv := none) (c2 := .none) (c3 := .none) (b4 := .bool false) ho4 hl2' (fun h' k hx _ => ?_)
  have J := I4.write (t' := tk) (x := a) (e := a) (o := exo a C none) (by rw [hH2]; exact True.intro) (.inl rfl) k ⟨_, hx⟩ (exo_ok hx)
  have eu : upd H2 a (exo a C none) = H2 := by
    funext b
    by_cases hb : b = a
    · rw [hb, upd_same, hH2]
    · rw [upd_ne hb]
  rw [eu] at J
  have J0 : Inv (ncx CX P w K mg base N F fI A outer s H E) [] (startF N vs [none]) H2 { heap := h', gens := g, drawn := d, toks := tk, os := os } := J.pins_of fun p hp => absurd hp (by simp)
  refine wpAt_of_wpAny ?_
  refine wpAny_mono (hrest.run [] _ _ _ _ J0 hq2) (fun fl s' hs => ?_) fun e s' hs => hs
  have fin : ∀ {σ' : L2.St} {H' : Hp} {v : V} {u : Value}, Inv (ncx CX P w K mg base N F fI A outer s H E) [] σ' H' s' → L2.RelV v u → Q v H' → CE outer P w H s Q u s' :=
    fun {σ' H' v u} J rv q => ⟨v, H', J.os, J.bare, J.base, J.hok, rv, q⟩
  cases fl with
  | ret u =>
    obtain ⟨v, σ', H', J, rv, q⟩ := hs
    exact fin J rv q
  | next =>
    obtain ⟨σ', H', J, q⟩ := hs
    exact fin (v := V.non) (u := Value.none) J rfl q
  | brk =>
    obtain ⟨_, _, _, q⟩ := hs
    exact False.elim q
  | cont =>
    obtain ⟨_, _, _, q⟩ := hs
    exact False.elim q
end
end DL
namespace DL
open PySem PySem.Spec PyProof.Rows L2
/-! ## try: body / except x as n: suite; what stands behind it still knows the exception that was caught -/
/-- the suite's wish: behind it stands the rest of the body, u where nothing was raised, v where a was caught -/
def wKeep (K : PySem.W.Frag) (c : Value) (i : Nat) (ts : Addr → Value → Option Addr → TS) (v : Addr → Value → Option Addr → TS) (Wout : WX) (En : Ends) : WX := fun cls d σ H =>
  ∃ b, PySem.W.exmOne K cls c = some b ∧ (b = true → ∀ a, H a = none → ts a cls d { nx := fun σ' H' => H' a = none ∧ v a cls d En (σ'.set i none) H', rt := fun _ _ => False, bk := fun _ _ => False, ct := fun _ _ => False } (σ.set i (some (.ref a))) H) ∧ (b = false → Wout cls d σ H)
section
variable {X : Cx} {x n : Str} {c : Value} {i : Nat} {body suite rest : List Stmt} {b₀ : Stmt} {np pos pos' : Pos} {tb : WX → TS} {ts v : Addr → Value → Option Addr → TS} {u : TS} {Wout : WX}
theorem pss_try_rest (hs : X.stack = X.env :: X.outer) (hf : X.env.frame = some X.env.locals) (hN : X.N.Nodup) (hi : X.N[i]? = some n) (hln : X.env.kindOf n = some .local) (hc : Names X x c) (tk : Takes X Wout)
    (hb : ∀ (W : WX) (pn : List (Addr × Obj)) (xe : Value → Shared → Prop), Takes (X.tr pn xe) W → PassesOwn (model X.prog X.w) X.A X.env xe → PSs (X.tr pn xe) body (tb W))
    (hsu : ∀ (a : Addr) (oe : Obj) (cls : Value) (d : Option Addr) (pn : List (Addr × Obj)), Zc cls d oe → (∃ vs, oe.data = .fields vs) → PSs (X.suite a ((a, oe) :: pn)) (b₀ :: suite) (ts a cls d))
    (hu : PSs X rest u)
    (hv : ∀ (a : Addr) (oe : Obj) (cls : Value) (d : Option Addr) (pn : List (Addr × Obj)), (a, oe) ∈ pn → Zc cls d oe → (∃ vs, oe.data = .fields vs) → PSs (X.tr pn X.xe) rest (v a cls d)) :
    PSs X (.Try body [.ExceptHandler (some (.Name x np)) (some n) (b₀ :: suite) pos'] [] [] pos :: rest) (fun En σ H => tb (wKeep X.K c i ts v Wout En) { En with nx := u En } σ H) := by
  refine ⟨fun pins s σ H En I h => ?_⟩
  have ok := I.ok
  have fr : X.A.frames = some (X.env :: X.outer) := ok.frames.trans (congrArg some hs)
  refine wpAny_execs_cons (wpAny_Try_except (wpAny_mono ((hb (wKeep X.K c i ts v Wout En) (X.pn ++ pins) (fun er s₁ => wpAny (model X.prog X.w) X.A (noteFrame er X.env) (fun _ s₂ =>
    wpAny (model X.prog X.w) X.A (setFlight er none) (fun _ s₃ => wpAny (model X.prog X.w) X.A (handleBy er X.env [.ExceptHandler (some (.Name x np)) (some n) (b₀ :: suite) pos'])
      (fun f s' => match f with | .next => wpAny (model X.prog X.w) X.A (execs rest X.env) (SP X pins En) X.xe s' | f => SP X pins En f s') X.xe s₃) X.xe s₂) X.xe s₁) ?takes PassesOwn.looking).run [] s σ H _ (I.toTry _) h) ?fine fun _ _ z => z))
  case fine =>
    intro f s1 q
    cases f with
    | next =>
      obtain ⟨σ1, H1, J1, q1⟩ := q
      exact wpAny_execs_nil (hu.run pins s1 σ1 H1 En (J1.ofTry ok) q1)
    | brk =>
      obtain ⟨σ1, H1, J1, q1⟩ := q
      exact ⟨σ1, H1, J1.ofTry ok, q1⟩
    | cont =>
      obtain ⟨σ1, H1, J1, q1⟩ := q
      exact ⟨σ1, H1, J1.ofTry ok, q1⟩
    | ret w =>
      obtain ⟨w1, σ1, H1, J1, r1, q1⟩ := q
      exact ⟨w1, σ1, H1, J1.ofTry ok, r1, q1⟩
  case takes =>
    intro er s' air
    obtain ⟨a, G, sI, pq, σ1, H1, cls, d, ea, J1, gr, up, sk, na, os, bare, b, eb, yes, no⟩ := air
    subst ea
    have J : Inv X pins σ1 H1 sI := J1.ofTry ok
    rw [hs] at sk
    refine Sky.land Zc.steady fr hf sk fun ha fa ua => ?_
    have Ja : Inv X pins σ1 H1 { s' with heap := ha } := J.landed gr fa.1 (up.trans ua) os bare
    obtain ⟨oa, va, ga, za, da⟩ := fa.there
    have off : a ∉ frs (X.env :: X.outer) := fun hm => by
      obtain ⟨_, o', e', nf⟩ := fa.2.2.1.mem hm
      rw [ga] at e'
      cases e'
      exact nf _ da
    have offL : a ≠ X.env.locals := fun z => off (List.mem_filterMap.mpr ⟨X.env, List.mem_cons_self, hf.trans (congrArg some z.symm)⟩)
    have offF : a ∉ X.fs := fun hm => by
      obtain ⟨e1, h1, h2⟩ := List.mem_filterMap.mp hm
      exact off (List.mem_filterMap.mpr ⟨e1, List.mem_cons_of_mem _ h1, h2⟩)
    refine wpAny_handleBy_cons (codeAny_handlers_test ?_) (by intro z; cases z)
    have look : PySem.W.Looks (model X.prog X.w) ha (typeOf (.ref a)) cls := fun A1 Q1 E1 s1 k1 q1 => wpAny_typeOf_ref (k1 _ _ ga) (by rw [za.1]; exact q1)
    have S1 := Ja.suite ga da na offL offF
    have test : ∀ {Q1 : Value → Shared → Prop} {E1 : Value → Shared → Prop}, Q1 c { s' with heap := ha } → wpAny (model X.prog X.w) (X.A.mark (some (.ref a))) (eval (.Name x np) X.env) Q1 E1 { s' with heap := ha } := fun {Q1 E1} q1 => by
      obtain ⟨h1, h2, h3 | ⟨h3, h4, h5⟩⟩ := hc
      · exact ld_glob (X := X.suite a ((a, oa) :: (X.pn ++ pins))) S1 h1 h3 q1 h2
      · exact ld_blt (X := X.suite a ((a, oa) :: (X.pn ++ pins))) S1 h1 h3 h4 q1 h5 h2
    refine test ((PySem.W.exm_one (M := model X.prog X.w) Ja.kIn look eb).here ?_)
    cases b with
    | false =>
      show wpAny _ X.A (handleBy (.ref a) X.env []) _ _ _
      refine wpAny_handleBy_nil ?_
      obtain ⟨_, _, _, oe, vs, T, oT, ts', he, hz, hd, h1, hr⟩ := id fa
      unfold PySem.passOn
      refine wpAny_bind (wpAny_field he hd h1 ?_)
      rw [if_neg (show ¬ ((Value.ref T == Value.none) = true) by simp)]
      have away : ∀ {Q1 : Flow → Shared → Prop}, wpAny (model X.prog X.w) X.A (setFlight (.ref a) X.env.frame) (fun _ s4 => wpAny (model X.prog X.w) X.A (throw (.ref a) : Sem Flow) Q1 X.xe s4) X.xe { s' with heap := ha } := fun {Q1} => by
        rw [hf]
        refine HandSPX.setFlight_upZ fa fun h4 f4 u4 => wpAny_throw (tk _ _ ?_)
        exact ⟨a, G, sI, pins, σ1, H1, cls, d, rfl, J, gr, (up.trans ua).trans u4, .inr (.inr (hs ▸ f4)), na, os, bare, no rfl⟩
      first
        | exact wpAny_bind (wpAny_pure (wpAny_bind away))
        | exact wpAny_bind away
    | true =>
      refine codeAny_handlers_suite_as (HandSPX.lands_againZ fa fun hc2 fc uc => ?_)
      have Jc : Inv X pins σ1 H1 { s' with heap := hc2 } := J.landed gr fc.1 ((up.trans ua).trans uc) os bare
      obtain ⟨oc, vc, gc, zc, dc⟩ := fc.there
      have Sc := Jc.suite gc dc na offL offF
      refine store_ok (X := X.suite a ((a, oc) :: (X.pn ++ pins))) (v := .ref a) Sc hN hi (.inl hln) rfl (fun s5 S5 => ?_) (.inr hln)
      refine wpAny_mono ((hsu a oc cls d (X.pn ++ pins) zc ⟨_, dc⟩).run [] s5 _ H1 _ S5 (yes rfl a na)) (fun f s6 q => ?_) fun _ _ z => z.elim
      cases f with
      | next =>
        obtain ⟨σ6, H6, S6, n6, q6⟩ := q
        have pin6 : ∀ p ∈ X.pn ++ ((a, oc) :: pins), s6.heap.get? p.1 = some p.2 ∧ H6 p.1 = none ∧ p.1 ≠ X.env.locals ∧ p.1 ∉ X.fs ∧ ∀ w, p.2.data ≠ .cell w := fun p hp => by
          rcases List.mem_append.mp hp with m | m
          · exact S6.pin p (List.mem_append_left _ (List.mem_cons_of_mem _ (List.mem_append_left _ m)))
          · rcases List.mem_cons.mp m with m | m
            · exact S6.pin p (List.mem_append_left _ (by rw [m]; exact List.mem_cons_self))
            · exact S6.pin p (List.mem_append_left _ (List.mem_cons_of_mem _ (List.mem_append_right _ m)))
        have K6 : Inv X ((a, oc) :: pins) σ6 H6 s6 := ⟨ok, S6.os, S6.bare, S6.base, S6.loc, S6.cell, S6.free, S6.freeC, pin6, S6.hok, S6.len⟩
        refine gone_ok K6 hN hi hln fun s7 J7 => ?_
        refine wpAny_mono ((hv a oc cls d (X.pn ++ (a, oc) :: pins) (List.mem_append_right _ List.mem_cons_self) zc ⟨_, dc⟩).run [] s7 _ H6 En (J7.toTry X.xe) q6) (fun g s8 q8 => ?_) fun _ _ z => z
        have back : ∀ {σ8 : L2.St} {H8 : Hp}, Inv (X.tr (X.pn ++ (a, oc) :: pins) X.xe) [] σ8 H8 s8 → Inv X pins σ8 H8 s8 := fun {σ8 H8} J8 =>
          ⟨ok, J8.os, J8.bare, J8.base, J8.loc, J8.cell, J8.free, J8.freeC, fun p hp => J8.pin p (List.mem_append_left _ (by
            rcases List.mem_append.mp hp with m | m
            · exact List.mem_append_left _ m
            · exact List.mem_append_right _ (List.mem_cons_of_mem _ m))), J8.hok, J8.len⟩
        cases g with
        | next =>
          obtain ⟨σ8, H8, J8, e8⟩ := q8
          exact ⟨σ8, H8, back J8, e8⟩
        | brk =>
          obtain ⟨σ8, H8, J8, e8⟩ := q8
          exact ⟨σ8, H8, back J8, e8⟩
        | cont =>
          obtain ⟨σ8, H8, J8, e8⟩ := q8
          exact ⟨σ8, H8, back J8, e8⟩
        | ret w =>
          obtain ⟨w8, σ8, H8, J8, r8, e8⟩ := q8
          exact ⟨w8, σ8, H8, back J8, r8, e8⟩
      | brk =>
        obtain ⟨_, _, _, z⟩ := q
        exact z.elim
      | cont =>
        obtain ⟨_, _, _, z⟩ := q
        exact z.elim
      | ret w =>
        obtain ⟨_, _, _, _, _, z⟩ := q
        exact z.elim
end
end DL
namespace DL
open PySem PySem.Spec PyProof.Rows L2 PySem.Calls
/-! ## isinstance(e, C), e.f of an exception that was caught ahead -/
section
variable {prog : Program} {w : World} {A : Around} {E : Value → Shared → Prop} {s : Shared} {K : PySem.W.Frag} {x C : Addr} {ox : Obj} {od : Option Obj}
/-- e.__class__, with a dict of its own or without -/
theorem class_of {Q : Option Value → Shared → Prop} (T : ExcC K C) (X : K.In s.heap) (I : PySem.W.InstAt s.heap x ox C od) (h : Q (some (.ref C)) { s with toks := s.toks + 1 }) :
    wpAny (model prog w) A (getAttr? (.ref x) "__class__") Q E s := by
  have fo : PySem.W.findObj K C od "__class__" = some (.bind (.builtin "getset_descriptor.__get__") (.builtin "object.__class__")) := by
    obtain ⟨cd, hc, _⟩ := PySem.W.any_some T.hd
    unfold PySem.W.findObj
    rw [hc, Option.bind_some, T.ha, Option.bind_some]
    simp only [T.hn, T.ht, Option.bind_some]
  obtain ⟨m0, g0, d0, t0, o0⟩ := s
  have l0 := I.type (M := model prog w)
  have l1 := PySem.W.looks_findIn (M := model prog w) X T.hg
  have l2 := PySem.W.looks_findIn (M := model prog w) X T.hk
  have l3 := PySem.W.looks_find (M := model prog w) X I fo
  have isB : PySem.W.Looks (model prog w) m0 (isInstance (.ref x) (.type "BaseException")) true := l0.andThen (PySem.W.looks_subIn X T.hs)
  have k1 : (Value.builtin "BaseException.__getattribute__" == Value.builtin "object.__getattribute__") = false := by decide +kernel
  have k2 : (onTheHeap (Value.ref C) && Value.builtin "BaseException.__getattribute__" == Value.builtin "object.__getattribute__") = false := by rw [k1]; rfl
  unfold getAttr? getAttrBy? getAttrBy
  refine wpAny_bind (wpAny_mkText (wpAny_bind (wpAny_attempt (wpAny_holding (wpAny_bind (l0.at (wpAny_bind (l1.at ?_))))))))
  show wpAny _ _ (ite ((onTheHeap (Value.ref C) && Value.builtin "BaseException.__getattribute__" == Value.builtin "object.__getattribute__") = true) _ _) _ _ _
  rw [k2, if_neg (show ¬ (false = true) from Bool.false_ne_true)]
  unfold getAttrByItsOwn hookBefore
  refine wpAny_bind (?_ : wpAny _ _ (ite _ _ _) _ _ _)
  rw [if_pos (show onTheHeap (Value.ref C) = true from rfl)]
  refine l2.at (wpAny_bind (wpAny_attempt (wpAny_holding ?_)))
  unfold callGetattribute
  rw [if_neg (show ¬ ((false && onTheHeap (Value.builtin "BaseException.__getattribute__")) = true) from Bool.false_ne_true)]
  unfold boundAndCalled
  rw [PySem.F.excAttr_ValueError.ga.bind (.ref x)]
  refine wpAny_bind (wpAny_pure (?_ : wpAny _ _ (call (.builtin "BaseException.__getattribute__") [.ref x, .str "__class__" t0]) _ _ _))
  refine wpAny_call (codeAny_call_builtin PySem.F.excAttr_ValueError.ga.plain PySem.F.entry_bexc_ga (?_))
  refine @PySem.W.check_slot (model prog w) _ _ ⟨m0, g0, d0, t0 + 1, o0⟩ "BaseException.__getattribute__" "BaseException" "__getattribute__" (.ref x) [.str "__class__" t0] [] _ (by decide +kernel) (by decide +kernel) isB (PySem.F.args_bexc_ga (.ref x) (.str "__class__" t0)) ?_
  unfold Builtin.«object.__getattribute__»
  refine wpAny_bind (wpAny_of_eq (a := ((Value.ref x : Value), [Value.str "__class__" t0])) (by first | rfl | (simp only [slotArgs] ; rfl)) ?_)
  refine wpAny_bind (wpAny_pure (wpAny_bind (l0.at (wpAny_bind (l3.at (?_ : wpAny _ _ (holding [Value.builtin "object.__class__"] (call (.builtin "getset_descriptor.__get__") [.builtin "object.__class__", .ref x, .ref C]) >>= ret) _ _ _))))))
  refine wpAny_bind (wpAny_holding (wpAny_call (PySem.W.class_get (s := ⟨m0, g0, d0, t0 + 1, o0⟩) (ox := ox) (od := od) X I T.hm ?_)))
  refine wpAny_pure (?_ : wpAny _ _ (handedOut (.ref C)) _ _ _)
  rw [PySem.W.handedOut_of (v := .ref C) rfl]
  first
    | exact wpAny_pure (wpAny_pure h)
    | exact wpAny_pure h
    | exact wpAny_pure (wpAny_bind (wpAny_pure (wpAny_pure h)))
theorem kit_exc (T : ExcC K C) : PySem.W.KitX K (.ref x) (.ref C) (fun h => ∃ (ox : Obj) (od : Option Obj), PySem.W.InstAt h x ox C od) := by
  refine ⟨fun M h X ⟨_, _, I⟩ => I.type, fun M h X _ => ?_, fun h tp dd its n sl X htp => ?_, fun {prog w A E Q s} X I k => ?_⟩
  · obtain ⟨cd, hc, _⟩ := PySem.W.any_some T.hd
    unfold PySem.W.clsIn at hc
    split at hc
    · rename_i a b c d ho
      intro A1 Q1 E1 s1 k1 q1
      unfold isType loadHead
      exact wpAny_bind (wpAny_loadPart (k1 _ _ (X _ _ ho)) (wpAny_pure q1))
    · cases hc
  · obtain ⟨cd, hc, _⟩ := PySem.W.any_some T.hd
    refine Bool.eq_false_iff.mpr fun q => ?_
    obtain rfl : C = tp := Value.ref.inj (beq_iff_eq.mp q)
    unfold PySem.W.clsIn at hc
    split at hc
    · rename_i a b c d ho
      cases (X _ _ ho).symm.trans htp
    · cases hc
  · obtain ⟨ox, od, J⟩ := I
    exact class_of T X J k
end
/-- a caught exception that stands among the pins -/
structure Pinned (X : Cx) (a : Addr) (cls : Value) (d : Option Addr) : Prop where
  ex : ∃ oe : Obj, (a, oe) ∈ X.pn ∧ Zc cls d oe ∧ ∃ vs, oe.data = .fields vs
/-- its dict is there -/
def rIsP (K : PySem.W.Frag) (C a : Addr) (dd : Addr) : List V → Hp → VK → Prop := fun xs H Q => ∃ (c : V) (cv : Value) (b : Bool) (fs : List (Str × V)), xs = [.ref a, c] ∧ (∀ u, RelV c u → u = cv) ∧ PySem.W.kitOne K (.ref C) cv = some b ∧ H dd = some (.xd fs) ∧ Q (.bl b) H
theorem call_isP {X : Cx} {a C dd : Addr} (T : ExcC X.K C) (p : Pinned X a (.ref C) (some dd)) : CallR X (.builtin "isinstance") (rIsP X.K C a dd) := by
  intro pins s σ H xs us Q I r h
  obtain ⟨c, cv, b, fs, rfl, hcv, e, hd, q⟩ := h
  obtain ⟨oe, hm, hz, vs, hv⟩ := p.ex
  cases r with
  | cons rx rr =>
    cases rr with
    | cons rt rr =>
      cases rr
      cases rx
      obtain rfl := hcv _ rt
      obtain ⟨hg, _⟩ := I.pin (a, oe) (List.mem_append_left _ hm)
      have hx : ObjOk X.prog X.w H s.heap dd (.xd fs) := I.hok dd _ hd
      obtain ⟨mA, hns, _⟩ := hx
      obtain ⟨o1, ho1, _⟩ := L2.lookIn_ns hns
      have J : PySem.W.InstAt s.heap a oe C (some o1) := ⟨hg, hz.1, by unfold PySem.W.notCls; rw [hv] <;> rfl, by rw [hz.2]; exact ho1⟩
      exact PySem.W.kia_one (kit_exc T) I.kIn ⟨_, _, J⟩ e (fun z => nomatch z) fun tk => ⟨.bl b, H, I.kept (t' := tk) fun _ _ z => z, rfl, q⟩
/-- e.f -/
def tXp (a dd : Addr) (f : Str) (te : TE) : TE := fun σ H Q => te σ H fun x H1 => x = .ref a ∧ ∃ (fs : List (Str × V)) (v : V), H1 dd = some (.xd fs) ∧ fs.lookup f = some v ∧ Q v H1
theorem pe_xp {X : Cx} {a C dd : Addr} {e : Expr} {te : TE} {pos : Pos} {n : Str} (T : XfC X.K C) (hno : PySem.W.findIn X.K (.ref C) n = some none) (p : Pinned X a (.ref C) (some dd)) (he : PE X e te)
    (hb : attributeBase e n X.env (eval e X.env) = eval e X.env := by rfl) : PE X (.Attribute e n pos) (tXp a dd n te) := by
  refine ⟨fun pins s σ H Q I h => attr_of hb (thn (he.run pins s σ H _ I h) fun u s1 q0 => ?_)⟩
  obtain ⟨oe, hm, hz, vs, hv⟩ := p.ex
  obtain ⟨x, H1, J, rx, rfl, fs, v, hd, hl, q⟩ := q0
  obtain rfl : u = Value.ref a := rx
  obtain ⟨hg, _⟩ := J.pin (a, oe) (List.mem_append_left _ hm)
  have hx : ObjOk X.prog X.w H1 s1.heap dd (.xd fs) := J.hok dd _ hd
  obtain ⟨mA, hns, hr⟩ := hx
  obtain ⟨o1, ho1, hlk⟩ := lookIn_ns hns
  obtain ⟨u1, hu1, ru1⟩ := RelO.some_of (v := v) (o := mA n) (by rw [← hl]; exact hr n)
  have J1 : PySem.W.InstAt s1.heap a oe C (some o1) := ⟨hg, hz.1, by unfold PySem.W.notCls; rw [hv] <;> rfl, by rw [hz.2]; exact ho1⟩
  exact HandSPX.exc_get J.kIn J1 T.ga T.gg T.exC (PySem.W.findObj_own T.hdC hno rfl ((hlk n).trans (congrArg some hu1))) (handed_of ru1) ⟨v, H1, J.tok _, ru1, q⟩
end DL
/-! ## sorted(set(xs)): numbers, texts -/
namespace DL.SetQ
open PySem PySem.Spec PyProof.Rows L2 PySem.Froz
/-- the text of a value -/
def textOf : Value → Str
  | .str x _ => x
  | _ => Str.empty
theorem texts_of : ∀ vs : List Value, (∀ v ∈ vs, ∃ x t, v = .str x t) → StrsAre vs (vs.map textOf)
  | [], _ => .nil
  | v :: vs, h => by
    obtain ⟨x, t, rfl⟩ := h v List.mem_cons_self
    exact .cons x t (texts_of vs fun u hu => h u (List.mem_cons_of_mem _ hu))
section
variable {P : Program} {w : World}
/-- the members, as they come, are the set's -/
theorem members {D : SD} {l : List Str} (F : TxOk P w D l) (nd : l.Nodup) {vs : List Value} (pm : vs.Perm (D.1.toList.map (·.2))) : StrsAre vs (vs.map textOf) ∧ (vs.map textOf).Perm l := by
  have str : ∀ v ∈ vs, ∃ x t, v = .str x t := fun v hv => by
    obtain ⟨e, he, rfl⟩ := List.mem_map.mp (pm.mem_iff.mp hv)
    obtain ⟨⟨x, hx, _⟩, _⟩ := F.el e he
    exact ⟨x, Value.isStrOf_shape hx⟩
  refine ⟨texts_of vs str, perm_of_len nd (fun x hx => ?_) ?_⟩
  · obtain ⟨e, he, hs⟩ := (F.mem x).mp hx
    obtain ⟨t, ev⟩ := Value.isStrOf_shape hs
    exact List.mem_map.mpr ⟨e.2, pm.mem_iff.mpr (List.mem_map.mpr ⟨e, he, rfl⟩), by rw [ev]; rfl⟩
  · rw [List.length_map, pm.length_eq, List.length_map, Array.length_toList, F.sz]
end
section
variable {X : Cx} {pins : List (Addr × Obj)} {σ : L2.St} {s : Shared} {H : Hp}
def rSortS (P : Program) (w : World) : List V → Hp → VK → Prop := fun xs H Q => ∃ a l, xs = [.ref a] ∧ H a = some (setO (kitS P w) a l) ∧ l.Nodup ∧ l.length < 64 ∧ ∀ ys p, ys.Perm l → sortedS ys = true → H p = none → Q (.ref p) (upd H p (.lst (ys.map V.str)))
theorem cr_sortS (hc : X.calm = true) : CallR X (.builtin "sorted") (rSortS X.prog X.w) := by
  rintro pins s σ H vs us Q I r ⟨a, l, rfl, ha, nd, few, q⟩
  rw [Vals.ref1 r]
  obtain ⟨D, e, F, ris, led⟩ := (I.hok a _ ha).1
  have small : D.1.size < scanBound := by rw [F.sz]; unfold scanBound; omega
  refine Calls.call_function_entry PyProof.Rows.kind_sorted PyProof.Rows.plain_sorted PyProof.Rows.entry_sorted (PyProof.Rows.args_sorted1 _) ?_
  unfold Builtin.«sorted»
  refine wpAny_bind (m := checkCount "sorted" 1 1 _) (wpAny_pure (wpAny_bind (collect_set (A := X.A.in1) (I.ok.hd hc) ⟨_, e, rfl, rfl⟩ F.fit small ris led fun s1 out kp le g1 o1 pm => ?_)))
  obtain ⟨str, perm⟩ := members F nd pm
  have len : out.length < 64 := by
    have := perm.length_eq
    rw [List.length_map] at this
    omega
  refine wpAny_bind (wpAny_newList ?_ (by rw [sizeLine_eq]; omega))
  have at_ : (s1.heap.push (seqObj "list" out.toArray 0)).get? s1.heap.objs.size = some (seqObj "list" out.toArray 0) := Heap.get?_push_size _ rfl
  refine wpAny_bind (wpAny_holding (wpAny_call_entry PyProof.Rows.slot_list_sort ⟨_, at_, rfl⟩ PyProof.Rows.entry_list_sort
    (list_sort_treeK strKind_oneLt at_ str.keysOf (fun v1 v2 rest z => keyKind_strs (by rw [← z]; exact str)) len fun st p1 p2 => ⟨_, rfl, ?_⟩) (PyProof.Rows.args_list_sort _)))
  obtain ⟨ys, g1s, g2, g3⟩ := sorted_out_str str p1 p2
  obtain ⟨c, here⟩ := PyProof.Rows.sortedHeap_at (vs := out) (out := (arrOf st).map (·.2)) at_
  have ok : (ys.map V.str).length ≤ sizeLine := by rw [List.length_map, g2.length_eq, List.length_map, sizeLine_eq]; omega
  have lt : ∀ b o, s.heap.get? b = some o → b < s1.heap.objs.size := fun b o eb => Heap.lt_size (kp b o eb)
  have kp2 : ∀ b o, s.heap.get? b = some o → (sortedHeap (s1.heap.push (seqObj "list" out.toArray 0)) s1.heap.objs.size out ((arrOf st).map (·.2))).get? b = some o := fun b o eb => by
    rw [PyProof.Rows.sortedHeap_old (Nat.ne_of_lt (lt b o eb)) (by rw [Heap.size_push]; exact Nat.lt_succ_of_lt (lt b o eb))]
    exact Heap.get?_push_of_some _ (kp b o eb)
  obtain ⟨zh, zg, zd, zt, zo⟩ := s1
  dsimp only at g1 o1 here kp2 le ⊢
  subst g1 o1
  have new := I.hok.fresh le
  exact wpAny_pure ⟨_, rfl, .ref zh.objs.size, _, I.call (ch := []) (g' := s.gens) (d' := zd) (t' := zt) (Un.laid (o := .lst (ys.map V.str)) kp2 le new) (I.hok.laid kp2 le ⟨ok, ((arrOf st).map (·.2)).toList, c, vals_of_strs g1s, by rw [Array.toArray_toList]; exact here⟩) I.bare (fun _ z => nomatch z), rfl, q ys _ (g2.trans perm) g3 new⟩
/-- the same of numbers -/
def rSortI (P : Program) (w : World) : List V → Hp → VK → Prop := fun xs H Q => ∃ a l, xs = [.ref a] ∧ H a = some (setO (kitI P w) a l) ∧ l.length < 64 ∧ ∀ (ys : List Int) p, ys.Pairwise (· < ·) → (∀ j, j ∈ ys ↔ j ∈ l) → H p = none → Q (.ref p) (upd H p (.lst (ys.map V.int)))
theorem cr_sortI (hc : X.calm = true) : CallR X (.builtin "sorted") (rSortI X.prog X.w) := by
  rintro pins s σ H vs us Q I r ⟨a, l, rfl, ha, few, q⟩
  rw [Vals.ref1 r]
  refine sorted_set (I.hok a _ ha).1 (I.ok.hd hc) few fun s1 b out c ns kp g1 o1 le at_ isI asc mem n => ?_
  have ok : (ns.map V.int).length ≤ sizeLine := by rw [List.length_map, n, sizeLine_eq]; omega
  have new := I.hok.fresh le
  obtain ⟨zh, zg, zd, zt, zo⟩ := s1
  dsimp only at g1 o1 kp at_ ⊢
  subst g1 o1
  exact ⟨.ref b, _, I.call (ch := []) (g' := s.gens) (d' := zd) (t' := zt) (Un.laid (o := .lst (ns.map V.int)) kp le new) (I.hok.laid kp le ⟨ok, out.toList, c, vals_of_ints isI, at_⟩) I.bare (fun _ z => nomatch z), rfl, q ns b asc (fun j => (mem j).trans decide_eq_true_iff) new⟩
end
end DL.SetQ
namespace DL
open PySem PySem.Spec PyProof.Rows L2
section
variable {X : Cx} {a : Expr} {ta : TE} {p p2 q pos : Pos}
/-- sorted(set(xs)), xs a list of numbers; of texts -/
def tSortSetI (P : Program) (w : World) (K : PySem.W.Frag) (ta : TE) : TE := tCB (SetQ.rSortI P w) (tCons (tCB (SetQ.rSet K (SetQ.kitI P w) V.int) (tCons ta tNil)) tNil)
theorem pe_sortSetI (hc : X.calm = true) (hg : Gl X "sorted") (hm : X.mg "sorted" = none) (hg2 : Gl X "set") (hm2 : X.mg "set" = none) (ha : PE X a ta)
    (na : starEach [a] X.env = (false, eval a X.env) :: starEach [] X.env := by rfl) : PE X (.Call (.Name "sorted" p) [.Call (.Name "set" p2) [a] [] q] [] pos) (tSortSetI X.prog X.w X.K ta) :=
  pe_callB (SetQ.cr_sortI hc) hg hm boot_sorted (pa_cons (pe_callTy (SetQ.cr_set SetQ.toldI hc) hg2 hm2 boot_set (pa_cons ha pa_nil (hs := na)) (he := na)) pa_nil)
def tSortSetS (P : Program) (w : World) (K : PySem.W.Frag) (ta : TE) : TE := tCB (SetQ.rSortS P w) (tCons (tCB (SetQ.rSet K (SetQ.kitS P w) V.str) (tCons ta tNil)) tNil)
theorem pe_sortSetS (hc : X.calm = true) (hg : Gl X "sorted") (hm : X.mg "sorted" = none) (hg2 : Gl X "set") (hm2 : X.mg "set" = none) (ha : PE X a ta)
    (na : starEach [a] X.env = (false, eval a X.env) :: starEach [] X.env := by rfl) : PE X (.Call (.Name "sorted" p) [.Call (.Name "set" p2) [a] [] q] [] pos) (tSortSetS X.prog X.w X.K ta) :=
  pe_callB (SetQ.cr_sortS hc) hg hm boot_sorted (pa_cons (pe_callTy (SetQ.cr_set SetQ.toldS hc) hg2 hm2 boot_set (pa_cons ha pa_nil (hs := na)) (he := na)) pa_nil)
end
end DL
namespace DL
open PySem PySem.Spec PyProof.Rows L2
/-! ## the law's entry, with tables of code objects -/
abbrev tblO : Obj := { cls := .none, data := .fields #[] }
/-- nothing is tracked but the script and empty tables -/
structure StartT (P : Program) (w : World) (K : PySem.W.Frag) (s : Shared) (a : Addr) (ns : List Int) (T : List Addr) (H : Hp) : Prop where
  tab : ∀ b ∈ T, H b = some (.tbl #[])
  only : ∀ b ps, H b = some (.tbl ps) → b ∈ T
  sq : SqL K H a (ns.map V.int)
  hok : HOk P w H s.heap
  one : ∀ b, H b ≠ none → b = a ∨ b ∈ T
  old : ∀ b, b ∉ T → H b = none ∨ ∃ o xs, H b = some (.frz o (.lst xs))
  kno : H a ≠ none → K.lookup a = none
theorem startT_ex {P : Program} {w : World} {K : PySem.W.Frag} {s : Shared} {a : Addr} {vs : List Value} {ns : List Int} {T : List Addr} (KX : K.In s.heap) (ha : s.heap.get? a = some { cls := .type "list", data := .seq vs.toArray }) (hi : IntsAre vs ns) (hl : ns.length ≤ sizeLine)
    (hT : ∀ b ∈ T, s.heap.get? b = some tblO) : a ∉ T ∧ ∃ H, StartT P w K s a ns T H := by
  obtain ⟨H0, Z⟩ := start_ex (P := P) (w := w) KX ha hi hl
  have aT : a ∉ T := fun z => by
    have e := hT a z
    rw [ha] at e
    cases congrArg Obj.data (Option.some.inj e)
  have inT : ∀ b, b ∈ T → (if b ∈ T then some (HO.tbl #[]) else H0 b) = some (HO.tbl #[]) := fun b hb => if_pos hb
  have outT : ∀ b, b ∉ T → (if b ∈ T then some (HO.tbl #[]) else H0 b) = H0 b := fun b hb => if_neg hb
  have up : ∀ b u, H0 b = some u → (if b ∈ T then some (HO.tbl #[]) else H0 b) = some u := fun b u e => by
    rw [outT b (by rw [Z.one b (by rw [e]; simp)]; exact aT)]
    exact e
  refine ⟨aT, fun b => if b ∈ T then some (.tbl #[]) else H0 b, inT, fun b ps e => ?_, ?_, fun b u e => ?_, fun b n => ?_, fun b hb => ?_, fun n => Z.kno ?_⟩
  · by_cases hb : b ∈ T
    · exact hb
    · rw [outT b hb] at e
      rcases Z.only b with z | ⟨o, xs, z⟩ <;> rw [z] at e <;> cases e
  · have q := Z.sq
    rcases q with q | q
    · rcases q with q | ⟨o, q⟩
      · exact .inl (.inl (up a _ q))
      · exact .inl (.inr ⟨o, up a _ q⟩)
    · exact .inr q
  · by_cases hb : b ∈ T
    · rw [inT b hb] at e
      cases e
      exact hT b hb
    · rw [outT b hb] at e
      exact (Z.hok b u e).stay (fun c v _ q => q) (fun c q => up c _ q) (fun c xs q => up c _ q)
  · by_cases hb : b ∈ T
    · exact .inr hb
    · have n : (if b ∈ T then some (HO.tbl #[]) else H0 b) ≠ none := n
      rw [outT b hb] at n
      exact .inl (Z.one b n)
  · have e := outT b hb
    rcases Z.only b with z | ⟨o, xs, z⟩
    · exact .inl (e.trans z)
    · exact .inr ⟨o, xs, e.trans z⟩
  · have n : (if a ∈ T then some (HO.tbl #[]) else H0 a) ≠ none := n
    rw [outT a aT] at n
    exact n
theorem callGT {P : Program} {w : World} {K : PySem.W.Frag} {mg mb : Str → Option Value} {CX : CXT} {k : Nat} {fa a : Addr} {cs : List (Addr × Addr)} {fd : FuncData} {x : Str} {sp : Sp} {s₁ : Shared} {vs : List Value} {ns : List Int}
    (KX : K.In s₁.heap) (hns : s₁.heap.Ns mainGlobals mg) (hb : s₁.heap.Ns builtinsNs mb) (hbb : ∀ x : Str, x ≠ "__name__" → mb x = bootBuiltins x) (hlim : s₁.heap.NoLimit) (hg : s₁.gens = #[])
    (hT : ∀ p ∈ cs, s₁.heap.get? p.2 = some tblO) (nT : ∀ p ∈ cs, K.lookup p.2 = none) (CH : ∀ p ∈ cs, PySem.W.CodeHd s₁.heap p.1 p.2)
    (hbm : ∃ (bm : Addr) (ob : Obj), mg "__builtins__" = some (.ref bm) ∧ bm ≠ builtinsNs ∧ s₁.heap.get? bm = some ob ∧ ob.cls = .type "module" ∧ ob.dict = some builtinsNs ∧ ob.data = .plain)
    (ha : s₁.heap.get? a = some { cls := .type "list", data := .seq vs.toArray }) (hi : IntsAre vs ns) (hl : ns.length ≤ sizeLine) (hr : Room k callerA)
    (F : ∀ base : Heap, K.In base → base.Ns mainGlobals mg → (∀ p ∈ cs, LamX.TabB base mg p.1 p.2) → GnOk P w K mg base CX k fa fd [x] sp) (hbind : ∀ (s : Shared) (u : Value), BindsTo s fd ⟨[u], []⟩ [(x, u)])
    (hsp : ∀ H : Hp, (∀ p ∈ cs, H p.2 = some (.tbl #[])) → (∀ b ps, H b = some (.tbl ps) → b ∈ cs.map (·.2)) → SqL K H a (ns.map V.int) → sp [.ref a] H (fun v _ => v = .bl true) fun _ _ _ => False)
    (hCX : ∀ H e s', CX [] H s₁ (fun _ _ _ => False) e s' → False) :
    codeAny (model P w) callerA (.call (.ref fa) ⟨[.ref a], []⟩) (fun r s' => r = .ok (.ret (.bool true)) ∧ OldK s₁.heap s'.heap ∧ s'.os = s₁.os ∧ AllBare s'.gens) s₁ := by
  have hT2 : ∀ b ∈ cs.map (·.2), s₁.heap.get? b = some tblO := fun b hb => by
    obtain ⟨p, hp, rfl⟩ := List.mem_map.mp hb
    exact hT p hp
  have memT : ∀ p ∈ cs, p.2 ∈ cs.map (·.2) := fun p hp => List.mem_map_of_mem hp
  obtain ⟨aT, H, Z⟩ := startT_ex (P := P) (w := w) KX ha hi hl hT2
  -- what is tracked is a list or an empty table
  have tr : ∀ {b : Addr} {o : Obj}, s₁.heap.get? b = some o → H b ≠ none → o = { cls := .type "list", data := .seq vs.toArray } ∨ o = tblO := fun {b o} e n => by
    rcases Z.one b n with q | q
    · subst q
      rw [ha] at e
      cases e
      exact .inl rfl
    · rw [hT2 b q] at e
      cases e
      exact .inr rfl
  have hide : ∀ {b : Addr} {o : Obj}, s₁.heap.get? b = some o → (H b ≠ none → False) → (hidT s₁.heap H).get? b = some o := fun {b o} e n => hidT_get e (by
    cases q : H b with
    | none => rfl
    | some u => exact (n (by rw [q]; simp)).elim)
  have ns1 : ∀ {b : Addr} {m : Str → Option Value}, s₁.heap.Ns b m → (hidT s₁.heap H).Ns b m := fun {b m} ⟨o, es, ep, e, d, r⟩ => ⟨o, es, ep, hide e (fun n => by
    rcases tr e n with z | z <;> rw [z] at d <;> cases d), d, r⟩
  have kb : K.In (hidT s₁.heap H) := fun b o e => hide (KX b o e) fun n => by
    rcases Z.one b n with q | q
    · subst q
      rw [Z.kno n] at e
      cases e
    · obtain ⟨p, hp, ep⟩ := List.mem_map.mp q
      rw [← ep, nT p hp] at e
      cases e
  have M : Mod K mg (hidT s₁.heap H) := ⟨kb, ns1 hns, ⟨mb, ns1 hb, hbb⟩, hlim.imp fun mc h => ⟨ns1 h.1, h.2⟩⟩
  have TB : ∀ p ∈ cs, LamX.TabB (hidT s₁.heap H) mg p.1 p.2 := fun p hp => by
    refine ⟨?_, ?_, fun z => ?_⟩
    · obtain ⟨o, us, file, tf, flags, tg, inF, text, tt, e1, r1, r2, r3, rest⟩ := CH p hp
      refine ⟨o, us, file, tf, flags, tg, inF, text, tt, hide e1 (fun n => ?_), r1, r2, r3, rest⟩
      rcases tr e1 n with z | z
      · rw [z] at r2
        cases r2
      · rw [z] at r2
        cases r2
        simp at r3
    · obtain ⟨bm, ob, b1, b2, b3, b4, b5, b6⟩ := hbm
      have no : H bm ≠ none → False := fun n => by
        rcases tr b3 n with z | z <;> rw [z] at b6 <;> cases b6
      refine ⟨bm, ob, b1, b2, fun q => ?_, fun q => ?_, hide b3 no, b4, b5, b6⟩
      · obtain ⟨o, es, ep, e, hd, _⟩ := hns
        rw [← q, b3] at e
        cases e
        rw [b6] at hd
        cases hd
      · exact no (by rw [q, Z.tab _ (memT p hp)]; simp)
    · obtain ⟨o, es, ep, e, hd, _⟩ := hns
      rw [z, hT p hp] at e
      cases e
      cases hd
  have e0 : Env0 P w K mg (hidT s₁.heap H) callerA [] s₁ H := ⟨rfl, M, fun b o e => of_hidT e, Nat.le_of_eq (hidT_size _ _), trivial, (fun b hb => nomatch (show b ∈ ([] : List Addr) from hb)), Z.hok, .of_eq hg⟩
  refine codeAny_mono ((F _ kb (ns1 hns) TB).go callerA [] s₁ H ⟨[.ref a], []⟩ [.ref a] [.ref a] _ _ rfl hr e0 (hbind s₁ (.ref a)) (.cons rfl .nil) (hsp H (fun p hp => Z.tab _ (memT p hp)) Z.only Z.sq)) fun r s' h => ?_
  cases r with
  | error e => exact (hCX H e s' h).elim
  | ok fl =>
    cases fl with
    | next => exact h.elim
    | brk => exact h.elim
    | cont => exact h.elim
    | ret u =>
      obtain ⟨v, H', os, bare, un, hok', r', q⟩ := h
      cases (show v = .bl true from q)
      cases (show u = Value.bool true from r')
      have wide : ∀ b ∈ cs.map (·.2), ∃ more : Array Value, s'.heap.get? b = some { cls := .none, data := .fields more } := fun b hb => by
        obtain ⟨more, z⟩ := un.tbls b #[] (Z.tab b hb)
        exact ⟨_, hok' b _ z⟩
      have same : ∀ b o, b ∉ cs.map (·.2) → s₁.heap.get? b = some o → s'.heap.get? b = some o := fun b o nb e => by
        rcases Z.old b nb with z | ⟨ob, xs, z⟩
        · exact un.keep b o e z (fun z => nomatch (show b ∈ ([] : List Addr) from z)) (by simp)
        · have e1 := (Z.hok b _ z).1
          have e2 := (hok' b _ (un.frzs b ob _ z)).1
          rw [e] at e1
          cases e1
          exact e2
      refine ⟨rfl, ⟨fun b o e => ?_, fun b o e => ?_⟩, os, bare⟩
      · by_cases hb : b ∈ cs.map (·.2)
        · obtain ⟨p, hp, rfl⟩ := List.mem_map.mp hb
          obtain ⟨more, hm⟩ := wide _ hb
          cases (hT p hp).symm.trans e
          exact .inr (.inl ⟨((CH p hp).tab (hT p hp)).isCodeTable, rfl, #[], more, rfl, hm.trans (by rw [Array.empty_append])⟩)
        · exact .inl (same b o hb e)
      · by_cases hb : b ∈ cs.map (·.2)
        · obtain ⟨more, hm⟩ := wide b hb
          exact ⟨_, hm⟩
        · exact ⟨o, same b o hb e⟩
/-- what is known of the law's promise at the head's heap h; cs: the code objects and their tables -/
def LawAtG (l : PySem.W.OpenLaw) (w : World) (K : PySem.W.Frag) (CX : CXT) (k n : Nat) (x : Str) (mg : Str → Option Value) (fa : Addr) (h : Heap) : Prop :=
  ∃ (fd : FuncData) (cs : List (Addr × Addr)) (sp : Sp), (∀ p ∈ cs, h.get? p.2 = some tblO ∧ K.lookup p.2 = none ∧ PySem.W.CodeHd h p.1 p.2) ∧ (∀ (s : Shared) (u : Value), BindsTo s fd ⟨[u], []⟩ [(x, u)]) ∧
    (∀ (H : Hp) (a : Addr) (ns : List Int), ns.length ≤ n → (∀ p ∈ cs, H p.2 = some (.tbl #[])) → (∀ b ps, H b = some (.tbl ps) → b ∈ cs.map (·.2)) → SqL K H a (ns.map V.int) → sp [.ref a] H (fun v _ => v = .bl true) fun _ _ _ => False) ∧
    ∀ base : Heap, K.In base → base.Ns mainGlobals mg → (∀ p ∈ cs, LamX.TabB base mg p.1 p.2) → GnOk l.prog w K mg base CX k fa fd [x] sp
theorem walk_ofGT {l : PySem.W.OpenLaw} {n k : Nat} {q : Program} {loose : List Str} {XP : (Str → Option Value) → Heap → Prop} {YP : World → Heap → Prop} {d : DefRec} {K : Params → PySem.W.Frag} {x : Str}
    (hn : l.most = some n) (hn2 : n ≤ sizeLine) (hdf : d.params.defaults = []) (hr : Room k callerA) (hY : ∀ (w : World) (h : Heap), YP w h → (K w.params).In h)
    (F : ∀ (w : World) (mg : Str → Option Value) (fa : Addr) (h : Heap), YP w h → (K w.params).In h → h.Ns mainGlobals mg → mg d.name = some (.ref fa) → LawAtG l w (K w.params) CX0 k n x mg fa h) :
    PySem.W.WalkO q loose XP YP l.row.toRowW d [] (fun f vs => PySem.call f vs) := by
  refine Att.attach_call hn hdf fun w s₀ s₁ mg mb fa o pm cd doc a vs ns G Y ho hd hcd hmg hobj hints hlen hg => ?_
  have KX := hY w _ Y
  obtain ⟨fd, cs, sp, hC, hb, hsp, hF⟩ := F w mg fa _ Y KX G.T.g hmg
  exact callGT KX G.T.g G.T.b G.T.builtins G.T.nolimit hg (fun p hp => (hC p hp).1) (fun p hp => (hC p hp).2.1) (fun p hp => (hC p hp).2.2) G.T.bmain hobj hints (Nat.le_trans hlen hn2) hr hF hb (fun H h1 h2 hS => hsp H a ns hlen h1 h2 hS) fun H e s' h => h
end DL
namespace DL
open PySem PySem.Spec PyProof.Rows L2 LamX NdefX
/-! ## an own exception of one field: def __init__(self, part): super().__init__(part); self.part = part -/
def spPart (K : PySem.W.Frag) (D : Addr) (fld : Str) : Sp := fun vs H Q _ => ∃ (a C : Addr) (x : V), vs = [.ref a, x] ∧ SCls K D C ∧ PySem.W.findIn K (.ref C) fld = some none ∧ H a = some (exo a C none) ∧
  ∀ dx, H dx = none → Q .non (upd (upd H dx (exd dx [(fld, x)])) a (exo a C (some dx)))
section
variable {CX : CXT} {P : Program} {w : World} {K : PySem.W.Frag} {mg : Str → Option Value} {base : Heap} {F : NF} {fI D cc : Addr} {doc pm ctv oc : Value} {od : Option Addr} {osl : Array (Option Value)}
theorem part_ok (SI : SInit P K mg fI F "self" D cc doc pm ctv oc od osl) (S : NScope ["self", "part", "__class__"] ["self", "part"] ["__class__"] F.scope)
    (hbody : ∃ p0 p1 p2 p3 p4 p5 p6 p7 p8 p9, F.body = [.Expr (.Call (.Attribute (.Call (.Name "super" p0) [] [] p1) "__init__" p2) [.Name "part" p3] [] p4) p5, .Assign [.Attribute (.Name "self" p6) "part" p7] (.Name "part" p8) p9] ∧ ∀ L : Addr, ∃ pl : Sem Bool,
      eval (.Call (.Attribute (.Call (.Name "super" p0) [] [] p1) "__init__" p2) [.Name "part" p3] [] p4) (envF F fI L) = (do
        let ov ← attributeBase (.Call (.Name "super" p0) [] [] p1) "__init__" (envF F fI L) (eval (.Call (.Name "super" p0) [] [] p1) (envF F fI L))
        standAt p2.atName
        let (f, first) ← holding [ov] (getMethod ov "__init__" pl)
        callWith p4 f first (backTo p4 (starEach [.Name "part" p3] (envF F fI L))) [])) :
    FnOk P w K mg base CX 1 fI (F.fd doc pm ctv) ["self", "part"] (spPart K D "part") := by
  obtain ⟨p0, p1, p2, p3, p4, p5, p6, p7, p8, p9, hb, hcs⟩ := hbody
  refine ⟨fun vs H Q E ⟨_, _, _, e, _⟩ => by rw [e]; rfl, fun A outer s H args us vs Q E hr e0 hbd hv h => ?_⟩
  obtain ⟨a, C, x, rfl, SC, hno, hH, hQ⟩ := h
  have vS : Vis F.scope "self" := .inl (S.par "self" (by simp))
  have vP : Vis F.scope "part" := .inl (S.par "part" (by simp))
  have nP : ∀ p, PE (ncx CX P w K mg base ["self", "part", "__class__"] F fI A outer s H E) (.Name "part" p) (tVar 1) := fun p => pe_var (i := 1) rfl vP
  have nS : ∀ p, PE (ncx CX P w K mg base ["self", "part", "__class__"] F fI A outer s H E) (.Name "self" p) (tVar 0) := fun p => pe_var (i := 0) rfl vS
  obtain ⟨pl, hc⟩ := hcs s.heap.objs.size
  refine sinit_run (pl := pl) (ta := tCons (tVar 1) tNil) (tr := tOst K "part" (tVar 0) (tVar 1)) SI S hb hr e0 hbd hv rfl (pa_cons (nP p3) pa_nil) (pss_one (ps_ost (nS p6) (nP p8))) ?_ (hi := by unfold interactive; rw [show (envF F fI s.heap.objs.size).scope = F.scope from rfl, S.kind]; rfl) (hc := hc)
  refine ⟨a, C, rfl, SC, hH, x, rfl, ?_⟩
  have small : [x].length ≤ sizeLine := by rw [sizeLine_eq]; exact (by decide : 1 ≤ 16777216)
  refine ⟨small, hH, x, rfl, .ref a, rfl, a, C, rfl, SC.T, hno, .inl ⟨hH, fun dx hd _ => hQ dx hd⟩⟩
end
theorem xd_heap {H : Hp} {a dx C : Addr} {fs : List (Str × V)} (ha : H a = none) (hne : dx ≠ a) :
    upd (L2.del (upd (upd (upd H a (exo a C none)) dx (exd dx fs)) a (exo a C (some dx))) a) dx (.xd fs) = upd H dx (.xd fs) := by
  funext b
  by_cases hb : b = dx
  · rw [hb, upd_same, upd_same]
  · rw [upd_ne hb, upd_ne hb]
    by_cases hc : b = a
    · rw [hc, L2.del_same, ha]
    · rw [L2.del_ne hc, upd_ne hc, upd_ne hb, upd_ne hc]
section
variable {K : PySem.W.Frag} [LT K] {p : Option Addr} {S0 S : Wd} {B : Hp} {σ : L2.St} {m M n : Nat} {l : En} {D C : Addr} {E : XK} {x : Str}
/-- raise C("..") -/
theorem s_raise (h : Sta K p S0 B m M n σ S l) (SC : SCls K D C) (hno : PySem.W.findIn K (.ref C) "part" = some none)
    (k : ∀ dx S', Gr K p S0 S' → S'.T ≤ S0.T + n → S'.H dx = some (.xd [("part", .str x)]) → E (.ref C) (some dx) S'.H) :
    tMkO C (spPart K D "part") [] (tCons (tC (.str x)) tNil) σ S.H (fun cls d H' => E cls d H') := by
  refine ⟨by show 1 ≤ 1000; decide, fun a ha => ⟨a, C, .str x, rfl, SC, hno, upd_same, fun dx hd => ?_⟩⟩
  have hne : dx ≠ a := fun z => by rw [z, upd_same] at hd; cases hd
  rw [upd_ne hne] at hd
  refine ⟨rfl, dx, [("part", .str x)], upd_same, by rw [upd_ne hne, upd_same], hd, ?_⟩
  rw [xd_heap ha hne]
  exact k dx ⟨S.F, upd S.H dx (.xd [("part", .str x)]), S.T⟩ (h.g.trans (Gr.newO h.ok hd)) h.tn upd_same
end
/-! ## a def that may raise such an exception -/
/-- what it answers, or nothing where it raises C with these fields -/
def spE (K : PySem.W.Frag) [LT K] (n : Nat) (pre : List D → Prop) (f : List D → Option D) (C : Addr) (fs : List (Str × V)) : Sp := fun vs H Q E => ∃ (F : Hp) (ds : List D), Ok K none ⟨F, H, 0⟩ ∧ Rps K F vs ds ∧ ds.length = n ∧ pre ds ∧
  (∀ d, f ds = some d → ∀ v F' H', Gr K none ⟨F, H, 0⟩ ⟨F', H', 0⟩ → Rp K F' v d → Q v H') ∧ (f ds = none → ∀ dx F' H', Gr K none ⟨F, H, 0⟩ ⟨F', H', 0⟩ → H' dx = some (.xd fs) → E (.ref C) (some dx) H')
theorem spE_len {K : PySem.W.Frag} [LT K] {n : Nat} {pre : List D → Prop} {f : List D → Option D} {C : Addr} {fs : List (Str × V)} {vs : List V} {H : Hp} {Q : VK} {E : XK} (h : spE K n pre f C fs vs H Q E) : vs.length = n := by
  obtain ⟨F, ds, _, r, hn, _⟩ := h
  rw [r.length, hn]
section
variable {K : PySem.W.Frag} [LT K] {p : Option Addr} {S : Wd} {σ : L2.St} {te ta tb : TE} {d d1 d2 e : D} {ds es : List D} {n : Nat} {pre : List D → Prop} {f : List D → Option D} {C : Addr} {fs : List (Str × V)}
/-- the entry of such a def -/
theorem fnE1 {t : TS} {Ns : List Str} {vs : List V} {H : Hp} {Q : VK} {E : XK} (h : spE K 1 pre f C fs vs H Q E) (hN : 1 ≤ Ns.length)
    (body : ∀ (S0 : Wd) (d : D) (σ : L2.St) (G : Ends), pre [d] → Sta K none S0 S0.F Ns.length 0 0 σ S0 [(0, .dat d)] → (∀ e v S', f [d] = some e → Gr K none S0 S' → S'.T ≤ S0.T + 0 → Rp K S'.F v e → G.rt v S'.H) →
      (f [d] = none → ∀ dx S', Gr K none S0 S' → S'.T ≤ S0.T + 0 → S'.H dx = some (.xd fs) → E (.ref C) (some dx) S'.H) → t G σ S0.H) :
    t { nx := fun _ H' => Q .non H', rt := Q } (L2.start Ns vs) H := by
  obtain ⟨F, ds, ok, r, hn, hp, k1, k2⟩ := h
  match ds, hn, r, hp, k1, k2 with
  | [d], _, r, hp, k1, k2 =>
    have st := sta_start (N := Ns) (M := 0) ok r (by rw [r.length]; exact hN) (show 0 + 0 ≤ 1000000000 by decide)
    have down : ∀ {S' : Wd}, Gr K none ⟨F, H, 0⟩ S' → Gr K none ⟨F, H, 0⟩ ⟨S'.F, S'.H, 0⟩ := fun {S'} g => ⟨g.ff, fun b o q np n => g.hh b o q np n, g.al, g.old, ⟨g.ok.sub, fun a e => (by cases e), g.ok.nt, g.ok.tb⟩⟩
    exact body ⟨F, H, 0⟩ d _ { nx := fun _ H' => Q .non H', rt := Q } hp st (fun e v S' he g _ rv => k1 e he v S'.F S'.H (down g) rv) (fun he dx S' g _ hx => k2 he dx S'.F S'.H (down g) hx)
/-- f(..) that raises nothing -/
theorem ed_callE {t : TA} {E : XK} (h : EvA K p t σ S ds) (hn : ds.length = n) (hp : pre ds) (hf : f ds = some e) : EvD K p (tCall (spE K n pre f C fs) [] E t) σ S e := fun S1 g Q q =>
  h S1 g _ fun vs S2 g2 t2 rs => by
    refine ⟨S2.F, ds, ⟨g2.ok.sub, fun a e => (by cases e), g2.ok.nt, g2.ok.tb⟩, by rw [List.append_nil]; exact rs, hn, hp, fun d hd v F' H' g' r => ?_, fun z => by rw [hf] at z; cases z⟩
    cases hf.symm.trans hd
    have g3 : Gr K none S2 ⟨F', H', S2.T⟩ := ⟨g'.ff, fun b o q np n => g'.hh b o q np n, g'.al, g'.old, ⟨g'.ok.sub, fun a e => (by cases e), g'.ok.nt, g'.ok.tb⟩⟩
    exact q v ⟨F', H', S2.T⟩ (g2.trans (g3.up g2.ok rfl)) t2 r
theorem ed_callEK {tk : TA} {E : XK} {gV : List V → List V → List V} {gD : List D → List D} (h : EvA K p tk σ S ds) (hg : ∀ F vs, Rps K F vs ds → Rps K F (gV [] vs) (gD ds)) (hn : (gD ds).length = n) (hp : pre (gD ds)) (hf : f (gD ds) = some e) : EvD K p (tCallK (spE K n pre f C fs) gV E tNil tk) σ S e := fun S1 g Q q =>
  h S1 g _ fun vs S2 g2 t2 rs => by
    refine ⟨S2.F, gD ds, ⟨g2.ok.sub, fun a e => (by cases e), g2.ok.nt, g2.ok.tb⟩, hg _ _ rs, hn, hp, fun d hd v F' H' g' r => ?_, fun z => by rw [hf] at z; cases z⟩
    cases hf.symm.trans hd
    have g3 : Gr K none S2 ⟨F', H', S2.T⟩ := ⟨g'.ff, fun b o q np n => g'.hh b o q np n, g'.al, g'.old, ⟨g'.ok.sub, fun a e => (by cases e), g'.ok.nt, g'.ok.tb⟩⟩
    exact q v ⟨F', H', S2.T⟩ (g2.trans (g3.up g2.ok rfl)) t2 r
end
end DL
namespace DL
open PySem L2
open Evl (Ex)
section
variable {K : PySem.W.Frag} [LT K] {p : Option Addr} {S S0 S1 S2 S3 : Wd} {B : Hp} {σ σ' : L2.St} {te ta tb tc to : TE} {d d1 d2 d3 : D} {ds es : List D} {v : V} {m M n k : Nat} {P P1 P2 : D → Prop} {l l' : En} {i j : Nat} {t : Ty} {D : Ends}
/-- [f for x, y in what is walked if b]: the items are pairs -/
theorem eo_lcP {wi : TI} {tt : TT} {vs : List Nat} {b : DL.D → Bool} {f px py : DL.D → DL.D} (h : Sta K p S0 B m M n σ S l) (hq : EvS K p wi σ S ds) (hi : i < m) (hj : j < m) (hij : i ≠ j) (hv : vs.contains i = true) (hv2 : vs.contains j = true) (hpair : ∀ d ∈ ds, d = .tup [px d, py d])
    (he : ∀ d ∈ ds, ∀ B' n' σ' S', Sta K p S0 B' m M n' σ' S' (put j (.dat (py d)) (put i (.dat (px d)) (l.filter fun q => !vs.contains q.1))) → EvT K p tt σ' S' (b d) ∧ (b d = true → EvD K p te σ' S' (f d))) (hz : ds.length < sizeLine) :
    EvO K p (tLc wi (gTup K 2 (gCons (gName i) (gCons (gName j) gNil))) tt te vs) σ S ((ds.filter b).map f) := by
  intro S1 g1 Q q
  have hm : i ∈ vs := by simpa using hv
  have hm2 : j ∈ vs := by simpa using hv2
  refine hq S1 g1 _ fun J S2 g2 t2 src => ?_
  intro A hA
  have hF2 := g2.ok.freshF hA
  have hAp := ok_ne g2.ok hA
  refine ⟨fun c k H' => k = ds.length - c ∧ c ≤ ds.length ∧ ∃ S' acc, S'.H = H' ∧ Gr K p S2 S' ∧ S'.T ≤ S2.T ∧ S'.H A = some (.lst acc) ∧ S'.F A = none ∧ Rps K S'.F acc (((ds.take c).filter b).map f),
    ⟨ds.length, by simp, Nat.zero_le _, ⟨S2.F, upd S2.H A (.lst []), S2.T⟩, [], rfl, Gr.newO g2.ok hA, Nat.le_refl _, upd_same, hF2, by rw [List.take_zero]; exact .nil⟩, ?_⟩
  rintro c k H' ⟨rfl, hc, S', acc, rfl, g', t', hA', hF', ra⟩
  obtain ⟨s1, s2⟩ := src S' g'.ff g'.ok c
  by_cases hlt : c < ds.length
  · obtain ⟨go, yl⟩ := s1 hlt
    refine .inr ⟨go, fun H' => ∃ S' acc, S'.H = H' ∧ Gr K p S2 S' ∧ S'.T ≤ S2.T ∧ S'.H A = some (.lst acc) ∧ S'.F A = none ∧ Rps K S'.F acc (((ds.take (c + 1)).filter b).map f), fun H' q => ⟨ds.length - (c + 1), by omega, rfl, hlt, q⟩, fun x H' y => ?_⟩
    obtain ⟨eH, d, hd, rx⟩ := yl x H' y
    subst eH
    have st := (h.any ((g1.trans g2).trans g')).wiped vs
    have hdm := List.mem_of_getElem? hd
    have rx2 : Rp K S'.F x (.tup [px d, py d]) := hpair d hdm ▸ rx
    cases rx2 with
    | tup hsq rr =>
    cases rr with
    | cons r1 rr =>
    cases rr with
    | cons r2 rr =>
    cases rr
    have st1 := st.set (t := .dat (px d)) hi r1 (fun z => by cases z)
    have st2 := (st1.set (t := .dat (py d)) hj r2 (fun z => by cases z)).base (fun _ _ q => q)
    obtain ⟨e1, e2⟩ := he d hdm _ _ _ _ st2
    refine ⟨_, _, rfl, Evl.ex_t g'.ok.sub hsq, rfl, _, _, rfl, _, _, rfl, rfl, ?_⟩
    refine ⟨by rw [wipe_set hm2, wipe_set hm, wipe_wipe fun _ z => z], e1 S' (Gr.refl g'.ok) _ fun S3 g3 t3 => ?_⟩
    have tk : (ds.take (c + 1)).filter b = if b d = true then (ds.take c).filter b ++ [d] else (ds.take c).filter b := by
      rw [List.take_succ, hd, List.filter_append]
      simp only [Option.toList, List.filter_cons, List.filter_nil]
      split <;> simp
    cases hb : b d with
    | true =>
      rw [if_pos rfl]
      refine e2 hb S3 g3 _ fun y S4 g4 t4 ry => ?_
      have g5 := g3.trans g4
      have hA4 := g5.hh _ _ hA' hAp
      have hF4 : S4.F A = none := (g5.old A (by rw [hA']; simp)).trans hF'
      have hl : acc.length ≤ ds.length := by
        rw [ra.length, List.length_map]
        exact Nat.le_trans (List.length_filter_le _ _) (by rw [List.length_take]; omega)
      refine ⟨acc, hA4, by omega, ⟨S4.F, upd S4.H A (.lst (acc ++ [y])), S4.T⟩, acc ++ [y], rfl, Gr.chg g2.ok (g'.trans g5) hA hF4 hA4 (fun ps z => by cases z) code_ne_lst, by show S4.T ≤ _; omega, upd_same, hF4, ?_⟩
      rw [tk, hb, if_pos rfl, List.map_append]
      exact ((ra.mono g5.ff).snoc ry)
    | false =>
      rw [if_neg Bool.false_ne_true]
      have hA3 := g3.hh _ _ hA' hAp
      have hF3 : S3.F A = none := (g3.old A (by rw [hA']; simp)).trans hF'
      refine ⟨S3, acc, rfl, g'.trans g3, by omega, hA3, hF3, ?_⟩
      rw [tk, hb, if_neg Bool.false_ne_true]
      exact ra.mono g3.ff
  · have e : c = ds.length := by omega
    subst e
    rw [List.take_length] at ra
    exact .inl ⟨s2 rfl, q A acc S' (g2.trans g') (by omega) (g2.fresh hA) hA' hF' ra⟩
end
end DL
/-! ## a lambda that is handed to a def: no parameter, or one whose default is a number; what its making does to the tables of code objects -/
namespace DL.Lm
open PySem PySem.Spec PyProof.Rows L2 LamX
/-- what is tracked before (H) and behind (H1) the making of a lambda: all but the tables stays, the tables grow, only the one at P may be new -/
structure Made (T : List (Addr × Str)) (P : Addr) (H H1 : Hp) : Prop where
  ext : ExtN H H1
  tabs : Tabs T H1
  only : ∀ b rows, H1 b = some (.tbl rows) → b = P ∨ ∃ old, H b = some (.tbl old)
theorem Made.same {T : List (Addr × Str)} {P : Addr} {H : Hp} (t : Tabs T H) : Made T P H H := ⟨ExtN.refl H, t, fun _ rows e => .inr ⟨rows, e⟩⟩
/-- the table at P gets a row, which tells the code object at c -/
abbrev grown (H : Hp) (P c : Addr) (q : Str) (rows : Array Value) (pos : Pos) : Hp := upd (upd H P (.tbl (rows ++ #[rawInt pos.line, rawInt pos.col, .ref c]))) c (CodeO c q)
theorem Made.row {T : List (Addr × Str)} {P c : Addr} {q : Str} {H : Hp} {rows : Array Value} {pos : Pos} (t : Tabs T H) (hu : ∀ p ∈ T, p.1 = P → p.2 = q) (hP : H P = some (.tbl rows)) (h3 : TriplesOk rows.toList)
    (told : ∀ (at_ : Pos) (v : Value), codeAmong at_ rows.toList = some v → ∃ d, v = .ref d ∧ H d = some (CodeO d q)) (new : H c = none) : Made T P H (grown H P c q rows pos) := by
  have apart : ∀ b o, H b = some o → b ≠ c := fun b o e z => by rw [z, new] at e; cases e
  have stays : ∀ b o, H b = some o → b ≠ P → grown H P c q rows pos b = some o := fun b o e n => by
    unfold grown
    rw [upd_ne (apart b o e), upd_ne n, e]
  have ext : ExtN H (grown H P c q rows pos) := fun b o e n => stays b o e fun z => n rows (by rw [z, hP] at e; exact (Option.some.inj e).symm)
  refine ⟨ext, fun p hp => ?_, fun b r hb => ?_⟩
  · by_cases z : p.1 = P
    · have here : grown H P c q rows pos p.1 = some (.tbl (rows ++ #[rawInt pos.line, rawInt pos.col, .ref c])) := by
        unfold grown
        rw [z, upd_ne (apart P _ hP), upd_same]
      have more : (rows ++ #[rawInt pos.line, rawInt pos.col, Value.ref c]).toList = rows.toList ++ [rawInt pos.line, rawInt pos.col, .ref c] := by rw [Array.toList_append]
      refine ⟨_, here, more ▸ PySem.TriplesOk_snoc _ _ _ _ h3, fun at_ v hv => ?_⟩
      rw [hu p hp z]
      rw [more] at hv
      rcases among_app rows.toList h3 hv with old | e
      · obtain ⟨d, e, hd⟩ := told at_ v old
        exact ⟨d, e, ext d _ hd fun ps => codeO_ne ps⟩
      · exact ⟨c, e, upd_same⟩
    · obtain ⟨ps, a, b, g⟩ := t p hp
      refine ⟨ps, stays _ _ a z, b, fun at_ v hv => ?_⟩
      obtain ⟨d, e, hd⟩ := g at_ v hv
      exact ⟨d, e, ext d _ hd fun ps => codeO_ne ps⟩
  · by_cases z : b = P
    · exact .inl z
    · refine .inr ⟨r, ?_⟩
      unfold grown at hb
      by_cases y : b = c
      · rw [y, upd_same] at hb
        exact absurd (Option.some.inj hb) (codeO_ne r)
      · rwa [upd_ne y, upd_ne z] at hb
section
variable {X : Cx} {pins : List (Addr × Obj)} {σ : L2.St} {s : Shared} {H : Hp}
/-- what was laid behind all that is there is no frame -/
theorem no_frame (I : Inv X pins σ H s) {f : Addr} (h : s.heap.objs.size ≤ f) : f ∉ frs X.stack := fun z => by
  cases I.stkSub f z with
  | head => exact absurd I.lt (Nat.not_lt.mpr h)
  | tail _ m => exact I.nofs h m
/-- a lambda as an object -/
abbrev lamO (q : Str) (params : Arguments) (body : Expr) (scope : Scope) (X : Cx) (dV doc pm : Value) (c' : Addr) (ct : Value) : Obj := PySem.W.kdv_obj "<lambda>" q params (.expr body) scope (cloFrom X.env.cells scope.names []) dV doc pm c' ct
abbrev lamF (q : Str) (params : Arguments) (body : Expr) (scope : Scope) (X : Cx) (dV doc pm : Value) (c' : Addr) (ct : Value) : FuncData := PySem.W.kdv_fn "<lambda>" q params (.expr body) scope (cloFrom X.env.cells scope.names []) dV doc pm (.ref c') ct
/-- what is known behind the making: the lambda stands at f, its code object at c' -/
structure Lam (T : List (Addr × Str)) (P : Addr) (X : Cx) (pins : List (Addr × Obj)) (σ : L2.St) (H : Hp) (q : Str) (params : Arguments) (body : Expr) (scope : Scope) (dV : Value) (f c' : Addr) (pm doc ct : Value) (H1 : Hp) (s' : Shared) : Prop where
  inv : Inv X pins σ H1 s'
  made : Made T P H H1
  obj : s'.heap.get? f = some (lamO q params body scope X dV doc pm c' ct)
  off : H1 f = none
  nofr : f ∉ frs X.stack
  code : H1 c' = some (CodeO c' q)
theorem tail_made {T : List (Addr × Str)} {c P : Addr} {q : Str} {params : Arguments} {body : Expr} {scope : Scope} {pos : Pos} {ln : Nat} {dV : Value} {E Q : Value → Shared → Prop} (I : Inv X pins σ H s) (B : TabB X.base X.mg c P) (hc : X.env.code = .ref c)
    (hm : (P, q) ∈ T) (hu : ∀ p ∈ T, p.1 = P → p.2 = q) (t : Tabs T H) (hf : ∀ y ∈ scope.names, y.2 = .free → ∃ d, X.env.cells.lookup y.1 = some d)
    (h : ∀ f c' pm doc ct H1 s', Lam T P X pins σ H q params body scope dV f c' pm doc ct H1 s' → (∀ b o, b ≠ P → s.heap.get? b = some o → s'.heap.get? b = some o ∧ H1 b = H b) → Q (.ref f) s') :
    wpAny (model X.prog X.w) X.A (makeTail "<lambda>" q params (.expr body) scope X.env dV .none none pos ln) Q E s := by
  obtain ⟨rows, hP, h3, told⟩ := t (P, q) hm
  have here := I.hok P _ hP
  have glob := I.mod.glob.keeps I.bk
  have head := B.code.keeps I.bk
  have blt := B.bm.keeps I.bk
  cases find : codeAmong pos rows.toList with
  | some v =>
    obtain ⟨d, rfl, hd⟩ := told pos v find
    refine PySem.W.kdv_makeTailHit (closure_ok hf) I.ok.glob glob hc head here h3 find blt fun ct doc h' tk kp le => ?_
    have kp2 : ∀ o' : Obj, ∀ b o, s.heap.get? b = some o → (h'.push o').get? b = some o := fun o' b o e => Heap.get?_push_of_some o' (kp b o e)
    exact h h'.objs.size d _ doc ct H _ ⟨I.kept (kp2 _), .same t, Heap.get?_push_size _ rfl, I.hok.fresh le, no_frame I le, hd⟩ fun b o _ e => ⟨kp2 _ b o e, rfl⟩
  | none =>
    refine PySem.W.kdv_makeTail (closure_ok hf) I.ok.glob glob hc head here h3 find B.gP blt fun c' ct doc h' tk ext ge lt rec_ tab => ?_
    obtain ⟨d, oc, vs, u, e, go, gd, gv⟩ := rec_
    obtain rfl : c' = d := Value.ref.inj e
    have kp2 : ∀ o' : Obj, ∀ b o, b ≠ P → s.heap.get? b = some o → (h'.push o').get? b = some o := fun o' b o n e => Heap.get?_push_of_some o' (ext b o n e)
    have le : s.heap.objs.size ≤ h'.objs.size := Nat.le_of_lt (Nat.lt_of_le_of_lt ge lt)
    have new : H c' = none := I.hok.fresh ge
    have off : grown H P c' q rows pos h'.objs.size = none := by
      unfold grown
      rw [upd_ne (Nat.ne_of_gt lt), upd_ne (Nat.ne_of_gt (Nat.lt_of_lt_of_le (Heap.lt_size here) le))]
      exact I.hok.fresh le
    exact h h'.objs.size c' _ doc ct _ _ ⟨inv_table (more := #[rawInt pos.line, rawInt pos.col, .ref c']) I hP (kp2 _) (Heap.get?_push_of_some _ tab) ge ⟨oc, vs, u, Heap.get?_push_of_some _ go, gd, gv⟩,
      .row t hu hP h3 told new, Heap.get?_push_size _ rfl, off, no_frame I le, upd_same⟩ fun b o n e => ⟨kp2 _ b o n e, by
        rw [upd_ne (Nat.ne_of_lt (Nat.lt_of_lt_of_le (Heap.lt_size e) ge)), upd_ne n]⟩
end
/-- called without arguments: no parameter, or one with a number as its default -/
def NoArgs (params : Arguments) (body : Expr) (scope : Scope) : Prop :=
  params.kw_defaults = [] ∧ ((params.defaults = [] ∧ ∀ q cl doc pm cv ct, bindArgs (PySem.W.kdv_fn "<lambda>" q params (.expr body) scope cl .none doc pm cv ct) ⟨[], []⟩ = pure []) ∨
    ∃ n i j p, params.defaults = [.Constant (.int i) j p] ∧ scope.names.lookup n = some .local ∧
      ∀ q cl a doc pm cv ct, ∃ k, bindArgs (PySem.W.kdv_fn "<lambda>" q params (.expr body) scope cl (.ref a) doc pm cv ct) ⟨[], []⟩ = seqItems? (.ref a) >>= k ∧ ∀ u, k (some #[u]) = pure [(n, u)])
/-- the binding of a call without arguments, wherever the untracked objects are as they were -/
def Binding (X : Cx) (q : Str) (params : Arguments) (body : Expr) (scope : Scope) (dV doc pm : Value) (c' : Addr) (ct : Value) (H1 : Hp) (s' : Shared) : Prop :=
  ∀ s2 : Shared, (∀ b o, s'.heap.get? b = some o → H1 b = none → b ∉ frs X.stack → s2.heap.get? b = some o) →
    ∃ bs, (∀ y ∈ bs, scope.names.lookup y.1 = some .local) ∧ BindsTo s2 (lamF q params body scope X dV doc pm c' ct) ⟨[], []⟩ bs
section
variable {X : Cx} {pins : List (Addr × Obj)} {σ : L2.St} {s : Shared} {H : Hp}
theorem made {T : List (Addr × Str)} {c P : Addr} {params : Arguments} {body : Expr} {scope : Scope} {pos : Pos} {E Q : Value → Shared → Prop} (I : Inv X pins σ H s) (B : TabB X.base X.mg c P) (hc : X.env.code = .ref c)
    (hm : (P, X.env.qual ++ "<lambda>") ∈ T) (hu : ∀ p ∈ T, p.1 = P → p.2 = X.env.qual ++ "<lambda>") (t : Tabs T H) (hf : ∀ y ∈ scope.names, y.2 = .free → ∃ d, X.env.cells.lookup y.1 = some d) (na : NoArgs params body scope)
    (h : ∀ dV f c' pm doc ct H1 s', Lam T P X pins σ H (X.env.qual ++ "<lambda>") params body scope dV f c' pm doc ct H1 s' → Binding X (X.env.qual ++ "<lambda>") params body scope dV doc pm c' ct H1 s' → Q (.ref f) s') :
    wpAny (model X.prog X.w) X.A (eval (.Lambda params body scope pos) X.env) Q E s := by
  obtain ⟨kw, ⟨d0, bind⟩ | ⟨n, i, j, p, d1, loc, bind⟩⟩ := na
  · refine PySem.W.kla_eval (by rw [defaultsOf_eq, d0, kw]; rfl) ?_
    rw [makeFunction_eq]
    simp only [List.zip_nil_right, List.filterMap_nil, List.isEmpty_nil, if_true, pure_bind]
    exact tail_made I B hc hm hu t hf fun f c' pm doc ct H1 s' L _ => h _ f c' pm doc ct H1 s' L fun s2 _ => ⟨[], (fun _ z => by cases z), .of_eq (bind _ _ _ _ _ _)⟩
  · refine PySem.W.kdv_lam (by rw [d1]; rfl) kw ?_
    rw [d1]
    refine PySem.W.kdv_all1 (wpAny_Constant_int (PySem.W.kdv_all0 ?_))
    rw [makeFunction_eq]
    simp only [List.zip_nil_right, List.filterMap_nil, List.isEmpty_nil, List.isEmpty_cons, Bool.false_eq_true, if_true, if_false, pure_bind]
    refine wpAny_bind (wpAny_newTextTuple ?_)
    have I2 := (I.tok (s.toks + 1)).kept (t' := s.toks + 1) fun b o e => Heap.get?_push_of_some { cls := .type "tuple", data := .seq [Value.int i s.toks].toArray } e
    have new : H s.heap.objs.size = none := I.hok.fresh (Nat.le_refl _)
    refine tail_made I2 B hc hm hu t hf fun f c' pm doc ct H1 s' L kp => h _ f c' pm doc ct H1 s' L fun s2 same => ?_
    obtain ⟨ps, hP, _⟩ := t _ hm
    obtain ⟨at1, same1⟩ := kp s.heap.objs.size _ (fun z => by rw [← z, new] at hP; cases hP) (Heap.get?_push_size _ rfl)
    have off : H1 s.heap.objs.size = none := same1.trans new
    obtain ⟨k, b1, b2⟩ := bind (X.env.qual ++ "<lambda>") (cloFrom X.env.cells scope.names []) s.heap.objs.size doc pm (.ref c') ct
    exact ⟨[(n, .int i s.toks)], (fun y hy => by rw [List.mem_singleton.mp hy]; exact loc), BindsTo.of_defaults rfl (same _ _ at1 off (no_frame I (Nat.le_refl _))) rfl b1 (b2 _)⟩
end
/-! ### the lambda's own body -/
/-- a lambda's names: captured ones, globals, and own ones that its maker (names N) has not -/
structure LamP (N : List Str) (sc scope : Scope) : Prop where
  kind : scope.kind = .function
  co : scope.isCoroutine = false
  gen : scope.isGenerator = false
  nocell : ∀ y ∈ scope.names, y.2 ≠ .cell
  own : ∀ y ∈ scope.names, y.2 = .local → y.1 ∉ N
  free : ∀ y ∈ scope.names, y.2 = .free → sc.names.lookup y.1 = some .cell ∨ sc.names.lookup y.1 = some .free
def lamPB (N : List Str) (sc scope : Scope) : Bool :=
  decide (scope.kind = .function) && (!scope.isCoroutine && (!scope.isGenerator && scope.names.all fun y => match y.2 with
    | .cell => false
    | .local => !N.contains y.1
    | .free => decide (sc.names.lookup y.1 = some .cell) || decide (sc.names.lookup y.1 = some .free)
    | _ => true))
theorem lamP_by {N : List Str} {sc scope : Scope} (h : lamPB N sc scope = true) : LamP N sc scope := by
  unfold lamPB at h
  rw [Bool.and_eq_true, Bool.and_eq_true, Bool.and_eq_true] at h
  obtain ⟨a, b, c, d⟩ := h
  have all := List.all_eq_true.mp d
  refine ⟨of_decide_eq_true a, by simpa using b, by simpa using c, fun y hy e => ?_, fun y hy e m => ?_, fun y hy e => ?_⟩ <;> have q := all y hy <;> rw [e] at q
  · cases q
  · simp [m] at q
  · simpa using q
section
variable {X : Cx} {pins : List (Addr × Obj)} {σ : L2.St} {s s1 : Shared} {H HZ : Hp}
theorem LamP.cells {N : List Str} {scope : Scope} (L : LamP N X.env.scope scope) (ok : X.Ok) : ∀ y ∈ scope.names, y.2 = .free → ∃ d, X.env.cells.lookup y.1 = some d :=
  fun y hy e => ok.has y.1 ((L.free y hy e).imp id id)
/-- the closure's cells are the maker's -/
theorem clo_sub {scope : Scope} (hf : ∀ y ∈ scope.names, y.2 = .free → ∃ d, X.env.cells.lookup y.1 = some d) {y : Str} {d : Addr} (h : (cloFrom X.env.cells scope.names []).lookup y = some d) : X.env.cells.lookup y = some d := by
  cases cloFrom_mem (PySem.mem_of_lookup h) with
  | inl z => cases z
  | inr z =>
    obtain ⟨d2, e⟩ := hf _ z.1 rfl
    have e : X.env.cells.lookup y = some d2 := e
    rw [z.2, e]
    rfl
/-- the state in which the body is entered: called from the frames outer at s1 -/
theorem enter {A : Around} {outer : List Env} {E : XK} {scope : Scope} {f c' : Addr} {h1 : Heap} {tk : Nat} {m : Str → Option Value} (I : Inv X pins σ H s) (L : LamP X.N X.env.scope scope) (e0 : Env0 X.prog X.w X.K X.mg X.base A outer s1 HZ) (hd : A.handled = none)
    (un : Un (frs X.stack) [] H HZ s.heap s1.heap) (ns : h1.Ns s1.heap.objs.size m) (kp : ∀ b o, s1.heap.get? b = some o → h1.get? b = some o) : Inv (lamCx X A outer s1 HZ E scope f c') [] σ HZ { s1 with heap := h1, toks := tk } := by
  have hf := L.cells I.ok
  have back := fun {y d} => clo_sub (X := X) (y := y) (d := d) hf
  have cellAt : ∀ {d : Addr} {v : Option Value}, H d = none → s.heap.IsCell d v → h1.IsCell d v := fun n ⟨o, e, dt⟩ => by
    obtain ⟨sl, q⟩ := un.any e n (List.not_mem_nil)
    exact ⟨{ o with slots := sl }, kp _ _ q, dt⟩
  have inner : ∀ {y}, scope.names.lookup y = some .free → ∃ d, (cloFrom X.env.cells scope.names []).lookup y = some d := fun k => mem_lookup (cloFrom_has (cells := X.env.cells) (acc := []) (PySem.mem_of_lookup k))
  constructor
  case ok =>
    constructor
    case mod => exact e0.mod
    case kind => exact L.kind
    case glob => rfl
    case blt => rfl
    case above => exact Nat.le_refl _
    case inj => exact fun y z d a b => I.ok.inj y z d (back a) (back b)
    case has =>
      intro y hy
      cases hy with
      | inl k => exact absurd rfl (L.nocell _ (PySem.mem_of_lookup k))
      | inr k => exact inner k
    case cab => exact fun _ _ z => by cases z
    case hd => exact fun _ => hd
    case frames => exact Around.frames_deeper e0.frames
    case stk => exact .inr ⟨rfl, rfl⟩
    case exf => exact fun _ z => by cases z
    case bs => exact e0.bs
    case bsz => exact e0.bsz
    case noex => exact fun _ _ _ z => by cases z
    case exfs => exact fun _ z => by cases z
    case funs => exact e0.funs
    case frf => exact e0.frf
  case os => rfl
  case bare => exact e0.bare
  case base => exact Un.kept kp
  case loc =>
    refine ⟨m, ns, fun i y v hN hv vis => ?_⟩
    rcases vis with k | k | k
    · exact absurd (List.mem_of_getElem? hN) (L.own _ (PySem.mem_of_lookup k) rfl)
    · exact absurd rfl (L.nocell _ (PySem.mem_of_lookup k))
    · obtain ⟨m0, _, look⟩ := I.loc
      have outerK := L.free _ (PySem.mem_of_lookup k) rfl
      obtain ⟨u, ru, lk⟩ := look i y v hN hv (.inr outerK)
      obtain ⟨d, hd2⟩ := inner k
      refine ⟨u, ru, .inr ⟨.inr k, d, hd2, ?_⟩⟩
      have up := back hd2
      rcases lk with ⟨loc, _⟩ | ⟨_, d3, e3, cell⟩
      · have loc : X.env.scope.names.lookup y = some .local := loc
        exfalso
        rcases outerK with z | z
        · cases (show X.env.scope.names.lookup y = some .cell from z).symm.trans loc
        · cases (show X.env.scope.names.lookup y = some .free from z).symm.trans loc
      · obtain rfl : d = d3 := Option.some.inj (up.symm.trans e3)
        exact cellAt (I.freeC y d up) cell
  case cell =>
    intro y d e
    obtain ⟨v, hv⟩ := I.cell y d (back e)
    exact ⟨v, cellAt (I.freeC y d (back e)) hv⟩
  case free => exact e0.hok.fresh (Nat.le_refl _)
  case freeC =>
    intro y d e
    obtain ⟨v, o, at_, _⟩ := I.cell y d (back e)
    exact un.free d o at_ (I.freeC y d (back e)) (List.not_mem_nil)
  case pin => exact fun _ z => by cases z
  case hok => exact e0.hok.kept kp
  case len => exact I.len
/-- a(), within the def that was handed the lambda -/
theorem asked {T : List (Addr × Str)} {P : Addr} {H0 : Hp} {CXg : CXT} {Eg : XK} {Ng : List Str} {qg : Str} {sg : Scope} {g f c' : Addr} {cdg dV pm doc ct : Value} {params : Arguments} {body : Expr} {scope : Scope} {k i : Nat} {a : Str} {pn : List (Addr × Obj)} {xe : Value → Shared → Prop} {W : WX} {E : XK} {tb : TE} {p1 p2 : Pos}
    (M : Lam T P X pins σ H0 (X.env.qual ++ "<lambda>") params body scope dV f c' pm doc ct H s) (bd : Binding X (X.env.qual ++ "<lambda>") params body scope dV doc pm c' ct H s) (L : LamP X.N X.env.scope scope)
    (tk : Takes ((cxOf CXg X.prog X.w X.K X.mg X.base Ng qg sg g cdg X.A X.stack s H Eg).tr pn xe) W) (hW : ∀ cls d σ' H', E cls d H' → W cls d σ' H') (room : Room (k + 1) (X.A.deeper (envOfC qg sg s.heap.objs.size g cdg)))
    (hb : ∀ (A : Around) (outer : List Env) (s : Shared) (H : Hp), Room k (A.deeper (lamEnv X scope s.heap.objs.size f c')) → PE (lamCx X A outer s H E scope f c') body tb)
    (hN : Ng[i]? = some a) (hv : Vis sg a) (hd : (a == ("__debug__" : Str)) = false) (hcd : (a == ("__classdict__" : Str)) = false) :
    PE ((cxOf CXg X.prog X.w X.K X.mg X.base Ng qg sg g cdg X.A X.stack s H Eg).tr pn xe) (.Call (.Name a p1) [] [] p2)
      (fun σZ HZ Q => σZ[i]? = some (some (.ref f)) ∧ HZ c' = some (CodeO c' (X.env.qual ++ "<lambda>")) ∧ tb σ HZ Q) := by
  constructor
  intro pinsZ sZ σZ HZ Q IZ ⟨slot, code, ht⟩
  have name := (pe_var (pos := p1) hN hv hd hcd).run pinsZ sZ σZ HZ (fun v H1 => v = .ref f ∧ H1 = HZ) IZ ⟨.ref f, slot, rfl, rfl⟩
  refine wpAny_Call_Name_kw (thn name fun u s2 ⟨v, H2, I2, ru, ev, eH⟩ => ?_)
  subst ev eH
  obtain rfl : u = .ref f := ru
  have old : ∀ b o, s.heap.get? b = some o → H b = none → b ∉ frs X.stack → s2.heap.get? b = some o := fun b o e n z => I2.base.keep b o e n z List.not_mem_nil
  have fat := old f _ M.obj M.off M.nofr
  refine PySem.W.callWith_F0 ⟨_, _, _, _, fat⟩ ?_
  obtain ⟨bs, loc, bind⟩ := bd s2 old
  obtain ⟨⟨oc, vs, t, co1, co2, co3⟩, _⟩ := I2.hok c' _ code
  have run : codeAny (model X.prog X.w) (X.A.deeper (envOfC qg sg s.heap.objs.size g cdg)) (.call (.ref f) ⟨[], []⟩) (CR (L2.CX X.prog X.w) (envOfC qg sg s.heap.objs.size g cdg :: X.stack) X.prog X.w H2 s2 Q E) s2 := by
    refine PySem.W.kla_callFunE room.depth fat rfl L.co L.gen rfl ⟨c', oc, vs, t, rfl, co1, co2, co3⟩ (bind _ _ _ _ ?_)
    refine wpAny_newFunctionEnv L.nocell loc (fun h1 ns sb => ⟨I2.nolimit.fresh _ sb, ?_⟩) L.kind
    have kp : ∀ b o, s2.heap.get? b = some o → h1.get? b = some o := fun b o e => sb.extBut b o (Nat.ne_of_lt (Heap.lt_size e)) (Heap.get?_push_of_some _ e)
    have J := enter (E := E) (f := f) (c' := c') (tk := s2.toks + bs.length) M.inv L I2.env0 room.hd I2.base ns kp
    refine PySem.W.kla_codeExpr (wpAny_mono ((hb _ _ s2 H2 (room.deeper _)).run [] _ _ H2 Q J ht) (fun v s' ⟨w', H', J', rv, q⟩ => ?_) fun _ _ x => x)
    exact ⟨w', H', J'.os, J'.bare, J'.base, J'.hok, rv, q⟩
  refine wpAny_call (codeAny_mono run fun r s' done => ?_)
  match r, done with
  | .error e, done => exact passes_call tk hW pinsZ σZ H2 s2 e s' I2 done
  | .ok (.ret u), done => exact I2.after done
  | .ok .next, done => exact False.elim done
  | .ok .brk, done => exact False.elim done
  | .ok .cont, done => exact False.elim done
/-- x(lambda ..: body): what is asked -/
def tLamT (T : List (Addr × Str)) (TT : (XK → Hp → VK → Prop) → Hp → VK → Prop) (t : XK → TE) : TE := fun σ H Q =>
  Tabs T H ∧ ∀ H1, ExtN H H1 → Tabs T H1 → (∀ b rows, H1 b = some (.tbl rows) → (∃ q, (b, q) ∈ T) ∨ ∃ old, H b = some (.tbl old)) → TT (fun E H' Q' => t E σ H' Q') H1 Q
theorem pe_handed {T : List (Addr × Str)} {TT : (XK → Hp → VK → Prop) → Hp → VK → Prop} {x a : Str} {g c P : Addr} {k : Nat} {fd : FuncData} {st : Stmt} {Ng : List Str} {params : Arguments} {body : Expr} {scope : Scope} {t : XK → TE} {p lp pos : Pos}
    (F : Fun X.K x x st g fd) (hg : Gl X x) (hm : X.mg x = some (.ref g)) (b : Binds X.K fd [a] []) (Sg : FnScope Ng [a] (defScope st)) (hNg : Ng[0]? = some a) (hva : Vis (defScope st) a) (hG : ∀ cdv, GivesTo X Ng x (defScope st) g cdv (defBody st) a (X.env.qual ++ "<lambda>") TT)
    (B : TabB X.base X.mg c P) (hc : X.env.code = .ref c) (hT : (P, X.env.qual ++ "<lambda>") ∈ T) (hu : ∀ p ∈ T, p.1 = P → p.2 = X.env.qual ++ "<lambda>") (room : Room (k + 2) X.A) (L : LamP X.N X.env.scope scope) (na : NoArgs params body scope)
    (hb : ∀ (A : Around) (outer : List Env) (s : Shared) (H : Hp) (E : XK) (f c' : Addr), Room k (A.deeper (lamEnv X scope s.heap.objs.size f c')) → PE (lamCx X A outer s H E scope f c') body (t E))
    (hdb : (x == ("__debug__" : Str)) = false := by decide) (hd : (a == ("__debug__" : Str)) = false := by decide) (hcd : (a == ("__classdict__" : Str)) = false := by decide) :
    PE X (.Call (.Name x p) [.Lambda params body scope lp] [] pos) (tLamT T TT t) := by
  obtain ⟨oc, od, kV, doc0, pm0, an, cdv, ct0, osl, rfl, lk, hcg⟩ := F.ex
  constructor
  intro pins s σ H Q I ⟨tabs, want⟩
  refine wpAny_Call_Name_kw (ld_glob I hg hm (PySem.W.callWith_K (h₀ := X.base) I.ok.mod.kin F.kp ?_ (by rfl) (by rfl)) hdb)
  show wpAny _ _ (spliced ((false, eval (.Lambda params body scope lp) X.env) :: backTo pos (starEach [] X.env))) _ _ s
  refine Calls.spliced_cons (made I B hc hT hu tabs (L.cells I.ok) na fun dV f c' pm doc ct H1 s' M bd => Calls.spliced_nil ⟨M.inv.kIn, ?_⟩)
  have known : ∀ b rows, H1 b = some (.tbl rows) → (∃ q, (b, q) ∈ T) ∨ ∃ old, H b = some (.tbl old) := fun b rows e => (M.made.only b rows e).imp (fun z => ⟨_, z ▸ hT⟩) id
  have run := run_ofS (CX := C8.CX0) (E := C8.E0) (Q := Q) (vs := [.ref f]) (us := [.ref f]) lk hcg Sg room M.inv.env0 (b s' [.ref f] M.inv.kIn rfl) (.cons rfl .nil) rfl fun room2 => by
    obtain ⟨t', run', q⟩ := hG cdv f c' s' H1 Q (fun E H' Q' => t E σ H' Q') (fun W pn xe E p1 p2 tk hW => asked (i := 0) M bd L tk hW room2 (fun A outer s H r => hb A outer s H E f c' r) hNg hva hd hcd) M.code (want H1 M.made.ext M.made.tabs known)
    exact ⟨t', run'.nox, q⟩
  refine wpAny_call (codeAny_mono run fun r s2 done => ?_)
  match r, done with
  | .error e, done => exact False.elim (show False from done)
  | .ok (.ret u), done => exact M.inv.after done
  | .ok .next, done => exact False.elim done
  | .ok .brk, done => exact False.elim done
  | .ok .cont, done => exact False.elim done
end
end DL.Lm
namespace DL
open PySem PySem.Spec PyProof.Rows L2
/-! ## the def that calls what it got and hears what is raised -/
/-- a part that is never come to -/
theorem pss_dead {X : Cx} {body : List Stmt} : PSs X body (fun _ _ _ => False) := ⟨fun _ _ _ _ _ _ h => h.elim⟩
/-- behind a caught exception: what its class and its dict are -/
structure Heard (K : PySem.W.Frag) (C : Addr) : Prop where
  T : ExcC K C
  F : XfC K C
  part : PySem.W.findIn K (.ref C) "part" = some none
theorem pss_pin {X : Cx} {body : List Stmt} {a : Addr} {oe : Obj} {cls : Value} {d : Option Addr} {v : Addr → Addr → TS} (hm : (a, oe) ∈ X.pn) (hz : Zc cls d oe) (hf : ∃ vs, oe.data = .fields vs)
    (h : ∀ C dd, Heard X.K C → Pinned X a (.ref C) (some dd) → PSs X body (v C dd)) : PSs X body (fun En σ H => ∃ C dd, cls = .ref C ∧ d = some dd ∧ Heard X.K C ∧ v C dd En σ H) :=
  ⟨fun pins s σ H En I ⟨C, dd, ec, ed, hH, hv⟩ => by
    subst ec
    subst ed
    exact (h C dd hH ⟨oe, hm, hz, hf⟩).run pins s σ H En I hv⟩
theorem takes_len {X : Cx} {W : WX} (tk : Takes X W) : Takes X (fun cls d σ H => σ.length = X.N.length → W cls d σ H) := fun u s' ⟨a, B, sI, pins, σ, H, cls, d, e, I, nb, up, sky, na, os, ag, w⟩ =>
  tk u s' ⟨a, B, sI, pins, σ, H, cls, d, e, I, nb, up, sky, na, os, ag, w I.len⟩
/-- x = ask() -/
def tAsk (n : Nat) (W : WX) (f c' : Addr) (q : Str) (tl : XK → Hp → VK → Prop) (i : Nat) : TS := fun En σ H => ∃ Ech : XK, (∀ cls d σ' H', σ'.length = n → Ech cls d H' → W cls d σ' H') ∧ σ[0]? = some (some (.ref f)) ∧ H c' = some (LamX.CodeO c' q) ∧
  tl Ech H fun v H' => En.nx (σ.set i (some v)) H'
theorem pss_ask {X : Cx} {W : WX} {f c' : Addr} {q a x : Str} {tl : XK → Hp → VK → Prop} {i : Nat} {p p1 p2 p3 : Pos} (tk : Takes X W)
    (act : ∀ (W : WX) (E : XK), Takes X W → (∀ cls d σ' H', E cls d H' → W cls d σ' H') → PE X (.Call (.Name a p1) [] [] p2) (fun σZ HZ Q => σZ[0]? = some (some (.ref f)) ∧ HZ c' = some (LamX.CodeO c' q) ∧ tl E HZ Q))
    (hN : X.N.Nodup) (hi : X.N[i]? = some x) (hx : Loc X.env.scope x) (hs : swapsWith (.Call (.Name a p1) [] [] p2) (some (.Name x p)) p3.line X.env = pure false := by rfl) (hf : X.fn x = true ∨ X.env.scope.names.lookup x = some .local := by first | exact .inl rfl | exact .inr rfl | assumption) :
    PSs X [.Assign [.Name x p] (.Call (.Name a p1) [] [] p2) p3] (tAsk X.N.length W f c' q tl i) :=
  ⟨fun pins s σ H En I ⟨Ech, hW, h1, h2, h3⟩ => (pss_one (ps_set (pos := p3) (pos' := p) hN hi hx (act _ Ech (takes_len tk) fun cls d σ' H' he hl => hW cls d σ' H' hl he) hs hf)).run pins s σ H En I ⟨h1, h2, h3⟩⟩
/-! ### what is asked of it, over data -/
section
variable {K : PySem.W.Frag} [LT K] {p : Option Addr} {S S0 S1 S2 : Wd} {B : Hp} {σ : L2.St} {te ta tb : TE} {d : D} {l : En} {m M n i : Nat} {a C dd b : Addr} {x : Str}
theorem rd_isRef : RD K p rIsN (.val (.ref a)) .non (.bl false) := rd_of (fun _ => .bl _) fun S1 x y o rx ry Q q => by
  cases rx
  cases ry
  exact ⟨rfl, by rw [show decide (V.ref a = V.non) = false from decide_eq_false fun z => by cases z]; exact q⟩
/-- isinstance(caught, C) -/
theorem ed_isP {r : Bool} {fs : List (Str × V)} (h : EvD K p te σ S (.val (.ref a))) (hk : PySem.W.kitOne K (.ref C) (.ref b) = some r) (hd : S.H dd = some (.xd fs)) (hp : some dd ≠ p) : EvD K p (tCB (rIsP K C a dd) (tCons te (tCons (tC (.ref b)) tNil))) σ S (.bl r) := fun S1 g Q q =>
  h S1 g _ fun v S2 g2 t2 rv => by
    cases rv
    exact ⟨.ref b, .ref b, r, fs, rfl, (fun u hu => hu), hk, (g.trans g2).hh _ _ hd hp, q (.bl r) S2 g2 t2 (.bl r)⟩
/-- caught.part -/
theorem ed_xp {fs : List (Str × V)} {u : V} (h : EvD K p te σ S (.val (.ref a))) (hl : fs.lookup x = some u) (hu : ∀ F, Rp K F u d) (hd : S.H dd = some (.xd fs)) (hp : some dd ≠ p) : EvD K p (tXp a dd x te) σ S d := fun S1 g Q q =>
  h S1 g _ fun v S2 g2 t2 rv => by
    cases rv
    exact ⟨rfl, fs, u, (g.trans g2).hh _ _ hd hp, hl, q u S2 g2 t2 (hu _)⟩
/-- no exception: what was answered, in a list -/
def QH (K : PySem.W.Frag) [LT K] (p : Option Addr) (S1 : Wd) (Q : VK) : VK := fun v H' => ∃ S2 d, S2.H = H' ∧ Gr K p S1 S2 ∧ S2.T ≤ S1.T ∧ Rp K S2.F v d ∧ ∀ v' S3, Gr K p S2 S3 → S3.T ≤ S2.T → Rp K S3.F v' (.lst [d]) → Q v' S3.H
/-- an exception of one field: its word, its part -/
def EH (K : PySem.W.Frag) [LT K] (HC : Addr → Str → Prop) (p : Option Addr) (S1 : Wd) (Q : VK) : XK := fun cls dd H' => ∃ S2 C dx x word, S2.H = H' ∧ Gr K p S1 S2 ∧ S2.T ≤ S1.T ∧ cls = .ref C ∧ dd = some dx ∧ H' dx = some (.xd [("part", .str x)]) ∧ HC C word ∧
  ∀ v' S3, Gr K p S2 S3 → S3.T ≤ S2.T → Rp K S3.F v' (.tup [.str word, .str x]) → Q v' S3.H
def TTh (K : PySem.W.Frag) [LT K] (HC : Addr → Str → Prop) : (XK → Hp → VK → Prop) → Hp → VK → Prop := fun tl H Q => ∃ p S, S.H = H ∧ Ok K p S ∧ S.T ≤ 1000000000 ∧ ∀ S1, Gr K p S S1 → S1.T ≤ S.T → ∀ (Q' : VK) (E' : XK), (∀ v H', QH K p S1 Q v H' → Q' v H') → (∀ c d H', EH K HC p S1 Q c d H' → E' c d H') → tl E' S1.H Q'
/-- a lambda was made -/
theorem lam_gr (ok : Ok K p S) {H1 : Hp} (ext : LamX.ExtN S.H H1) (tb : LamX.Tabs (LT.tabs K) H1) (nn : ∀ a ps, H1 a = some (.tbl ps) → ∃ q, (a, q) ∈ LT.tabs K) : Gr K p S ⟨S.F, H1, S.T⟩ := by
  have pn : ∀ a, p = some a → ∀ o, S.H a = some o → H1 a = some o := fun a e o ho => by
    obtain ⟨⟨c, t, r, cs, h1, _⟩, _⟩ := ok.pen a e
    exact ext a o ho fun ps z => by rw [h1] at ho; cases ho; cases z
  refine ⟨fun _ _ h => h, fun a o h _ n => ext a o h n, fun a h => ?_, fun a h => rfl, ⟨fun a o h => ext a o (ok.sub a o h) fun ps z => ok.nt a ps (by rw [h, z]), fun a e => ?_, ok.nt, ⟨tb, nn⟩⟩⟩
  · cases e : S.H a with
    | none => exact absurd e h
    | some o =>
      by_cases ht : ∃ ps, o = .tbl ps
      · obtain ⟨ps, rfl⟩ := ht
        obtain ⟨q, hq⟩ := ok.tb.only a ps e
        obtain ⟨ps', h1, _⟩ := tb _ hq
        intro z
        have z : H1 a = none := z
        rw [show H1 a = _ from h1] at z
        cases z
      · intro z
        have z : H1 a = none := z
        rw [show H1 a = _ from ext a o e fun ps z => ht ⟨ps, z⟩] at z
        cases z
  · obtain ⟨⟨c, t, r, cs, h1, h2⟩, h3⟩ := ok.pen a e
    exact ⟨⟨c, t, r, cs, pn a e _ h1, h2⟩, h3⟩
/-- heard(lambda: ..): the lambda answers -/
theorem ed_heard {HC : Addr → Str → Prop} {t : XK → TE} (h : ∀ E, EvD K p (t E) σ S d) (hb : ∀ S1, Gr K p S S1 → S1.T ≤ 1000000000) : EvD K p (Lm.tLamT (LT.tabs K) (TTh K HC) t) σ S (.lst [d]) := fun S1 g Q q => by
  refine ⟨g.ok.tb.tabs, fun H1 ext tb no => ?_⟩
  have g1 := lam_gr g.ok ext tb fun a ps e => (no a ps e).elim id fun ⟨old, h⟩ => g.ok.tb.only a old h
  refine ⟨p, ⟨S1.F, H1, S1.T⟩, rfl, g1.ok, hb S1 g, fun S2 g2 t2 Q' E' hQ hE => h _ S2 (g.trans (g1.trans g2)) _ fun v S3 g3 t3 rv => hQ _ _ ?_⟩
  exact ⟨S3, d, rfl, g3, t3, rv, fun v' S4 g4 t4 rv' => q v' S4 (g1.trans (g2.trans (g3.trans g4))) (by have : S2.T ≤ S1.T := t2; omega) rv'⟩
/-- what heard tells of f(..) -/
def heardD (o : Option D) (word x : Str) : D := match o with
  | some d => .lst [d]
  | none => .tup [.str word, .str x]
theorem ed_heardE {HC : Addr → Str → Prop} {n : Nat} {pre : List D → Prop} {f : List D → Option D} {ta : TA} {ds : List D} {word : Str} (h : EvA K p ta σ S ds) (hn : ds.length = n) (hp : pre ds) (hw : f ds = none → HC C word):
    EvN K p (Lm.tLamT (LT.tabs K) (TTh K HC) fun E => tCall (spE K n pre f C [("part", .str x)]) [] E ta) σ S 0 (fun d => d = heardD (f ds) word x) := fun S1 g hb Q q' => by
  have q : ∀ v S2, Gr K p S1 S2 → S2.T ≤ S1.T → Rp K S2.F v (heardD (f ds) word x) → Q v S2.H := fun v S2 g2 t2 r => q' v _ S2 g2 t2 r rfl
  refine ⟨g.ok.tb.tabs, fun H1 ext tb no => ?_⟩
  have g1 := lam_gr g.ok ext tb fun a ps e => (no a ps e).elim id fun ⟨old, h⟩ => g.ok.tb.only a old h
  refine ⟨p, ⟨S1.F, H1, S1.T⟩, rfl, g1.ok, hb, fun S2 g2 t2 Q' E' hQ hE => h S2 (g.trans (g1.trans g2)) _ fun vs S3 g3 t3 rs => ?_⟩
  have t23 : S3.T ≤ S1.T := by have : S2.T ≤ S1.T := t2; omega
  have lift : ∀ {F' H' : Hp}, Gr K none ⟨S3.F, S3.H, 0⟩ ⟨F', H', 0⟩ → Gr K p S3 ⟨F', H', S3.T⟩ := fun {F' H'} g' =>
    Gr.up (S' := ⟨F', H', S3.T⟩) ⟨g'.ff, fun b o q np n => g'.hh b o q np n, g'.al, g'.old, ⟨g'.ok.sub, fun a e => (by cases e), g'.ok.nt, g'.ok.tb⟩⟩ g3.ok rfl
  refine ⟨S3.F, ds, ⟨g3.ok.sub, fun a e => (by cases e), g3.ok.nt, g3.ok.tb⟩, by rw [List.append_nil]; exact rs, hn, hp, fun d hd v F' H' g' rv => ?_, fun hnone dx F' H' g' hx => ?_⟩
  · refine hQ _ _ ⟨⟨F', H', S3.T⟩, d, rfl, g3.trans (lift g'), t3, rv, fun v' S4 g4 t4 rv' => q v' S4 (g1.trans (g2.trans (g3.trans ((lift g').trans g4)))) (by have : S4.T ≤ S3.T := t4; omega) ?_⟩
    rw [hd]
    exact rv'
  · refine hE _ _ _ ⟨⟨F', H', S3.T⟩, C, dx, x, word, rfl, g3.trans (lift g'), t3, rfl, rfl, hx, hw hnone, fun v' S4 g4 t4 rv' => q v' S4 (g1.trans (g2.trans (g3.trans ((lift g').trans g4)))) (by have : S4.T ≤ S3.T := t4; omega) ?_⟩
    rw [hnone]
    exact rv'
/-- x, y = a pair -/
theorem s_unp2 {d1 d2 : D} {i1 i2 : Nat} {G : Ends} (h : Sta K p S0 B m M n σ S l) (he : EvD K p te σ S (.tup [d1, d2])) (h1 : i1 < m) (h2 : i2 < m) (kk : ∀ σ' S', Sta K p S0 B m M n σ' S' (put i2 (.dat d2) (put i1 (.dat d1) l)) → G.nx σ' S'.H) :
    tAsg te (gTup K 2 (gCons (gName i1) (gCons (gName i2) gNil))) G σ S.H :=
  he S (Gr.refl h.ok) _ fun v S2 g2 t2 rv => by
    cases rv with
    | tup hsq rr =>
    cases rr with
    | cons r1 rr =>
    cases rr with
    | cons r2 rr =>
    cases rr
    have s1 := (h.grow0 g2 t2).set (t := .dat d1) h1 r1 (fun z => by cases z)
    have s2 := s1.set (t := .dat d2) h2 r2 (fun z => by cases z)
    exact ⟨_, _, rfl, Evl.ex_t g2.ok.sub hsq, rfl, _, _, rfl, _, _, rfl, rfl, kk _ S2 s2⟩
end
end DL
namespace DL
open PySem PySem.Spec PyProof.Rows L2 NdefX
/-! ## what the printed terms name, for laws with own exceptions and lambdas -/
/-- a def whose code object is at c -/
structure FunC (K : PySem.W.Frag) (x qual : Str) (st : Stmt) (f : Addr) (fd : FuncData) (c : Addr) : Prop where
  ex : ∃ (oc : Value) (od : Option Addr) (kV doc pm : Value) (an : Option Addr) (ct : Value) (osl : Array (Option Value)),
    fd = PySem.W.fnOf x qual (defArgs st) (defBody st) (defScope st) .none kV doc pm an (.ref c) ct ∧ K.lookup f = some ⟨oc, od, .func fd, osl⟩ ∧ PySem.W.codeIn K (.ref c) qual = true
section
variable {P : Program} {w : World} {K : PySem.W.Frag} {mg : Str → Option Value} {base : Heap} {k : Nat} {f c : Addr} {fd : FuncData} {ps : List Str} {sp : Sp}
theorem gn_okC {x qual : Str} {st : Stmt} {N : List Str} (F : FunC K x qual st f fd c) (S : FnScope N ps (defScope st)) (len : ∀ vs H Q E, sp vs H Q E → vs.length = ps.length)
    (hbody : ∀ (A : Around) (outer : List Env) (s : Shared) (H : Hp) (vs : List V) (Q : VK) (E : XK), A.guards = some [] → Room k (A.deeper (envOfC qual (defScope st) s.heap.objs.size f (.ref c))) → sp vs H Q E →
      ∃ t, PSs (cxOf CX0 P w K mg base N qual (defScope st) f (.ref c) A outer s H E).nox (defBody st) t ∧ t { nx := fun _ H' => Q .non H', rt := Q } (L2.start N vs) H) : GnOk P w K mg base CX0 (k + 1) f fd ps sp := by
  obtain ⟨oc, od, kV, doc, pm, an, ct, osl, rfl, lk, hcd⟩ := F.ex
  refine gn_of lk hcd S len fun A outer s H vs Q E hG hr hsp => ?_
  obtain ⟨t, h, q⟩ := hbody A outer s H vs Q E hG hr hsp
  exact ⟨t, h.nox, q⟩
theorem funC_mk {x qual : Str} {st : Stmt} {oc : Value} {od an : Option Addr} {osl : Array (Option Value)} {kV doc pm ct : Value} (l : K.lookup f = some ⟨oc, od, .func (PySem.W.fnOf x qual (defArgs st) (defBody st) (defScope st) .none kV doc pm an (.ref c) ct), osl⟩)
    (hc : PySem.W.codeIn K (.ref c) qual = true) : FunC K x qual st f (PySem.W.fnOf x qual (defArgs st) (defBody st) (defScope st) .none kV doc pm an (.ref c) ct) c := ⟨oc, od, kV, doc, pm, an, ct, osl, rfl, l, hc⟩
end
/-- the __init__ of a class of one field -/
structure PartI (P : Program) (K : PySem.W.Frag) (mg : Str → Option Value) (D fI : Addr) (fd : FuncData) : Prop where
  ex : ∃ (F : NF) (cc : Addr) (doc pm ctv oc : Value) (od : Option Addr) (osl : Array (Option Value)), fd = F.fd doc pm ctv ∧ SInit P K mg fI F "self" D cc doc pm ctv oc od osl ∧ NScope ["self", "part", "__class__"] ["self", "part"] ["__class__"] F.scope ∧
    ∃ p0 p1 p2 p3 p4 p5 p6 p7 p8 p9, F.body = [.Expr (.Call (.Attribute (.Call (.Name "super" p0) [] [] p1) "__init__" p2) [.Name "part" p3] [] p4) p5, .Assign [.Attribute (.Name "self" p6) "part" p7] (.Name "part" p8) p9] ∧ ∀ L : Addr, ∃ pl : Sem Bool,
      eval (.Call (.Attribute (.Call (.Name "super" p0) [] [] p1) "__init__" p2) [.Name "part" p3] [] p4) (envF F fI L) = (do
        let ov ← attributeBase (.Call (.Name "super" p0) [] [] p1) "__init__" (envF F fI L) (eval (.Call (.Name "super" p0) [] [] p1) (envF F fI L))
        standAt p2.atName
        let (f, first) ← holding [ov] (getMethod ov "__init__" pl)
        callWith p4 f first (backTo p4 (starEach [.Name "part" p3] (envF F fI L))) [])
  b : Binds K fd ["self", "part"] []
  tI : PySem.W.typeIn K (.ref fI) = some (.type "function")
theorem PartI.ok {P : Program} {w : World} {K : PySem.W.Frag} {mg : Str → Option Value} {base : Heap} {CX : CXT} {D fI : Addr} {fd : FuncData} (h : PartI P K mg D fI fd) : FnOk P w K mg base CX 1 fI fd ["self", "part"] (spPart K D "part") := by
  obtain ⟨F, cc, doc, pm, ctv, oc, od, osl, rfl, SI, S, hb⟩ := h.ex
  exact part_ok SI S hb
/-- a class below it that is raised -/
structure RaiseI (K : PySem.W.Frag) (D fI C : Addr) : Prop where
  S : SCls K D C
  no : PySem.W.findIn K (.ref C) "part" = some none
  iC : PySem.W.findIn K (.ref C) "__init__" = some (some (.ref fI))
/-- raise C("..") -/
def tRaiseP (K : PySem.W.Frag) (D C : Addr) (x : Str) (E : XK) : TS := fun _ σ H => tMkO C (spPart K D "part") [] (tCons (tC (.str x)) tNil) σ H fun cls d H' => E cls d H'
theorem ps_raiseP {X : Cx} {E : XK} {D fI C : Addr} {fd : FuncData} {n x : Str} {j k : Nat} {p1 p2 p3 p4 : Pos} (hc : X.calm = true) (I : PartI X.prog X.K X.mg D fI fd) (R : RaiseI X.K D fI C) (hr : Room (k + 2) X.A) (tk : Takes X (fun cls d _ H => E cls d H)) (hg : Gl X n) (hm : X.mg n = some (.ref C))
    (hdb : (n == ("__debug__" : Str)) = false := by decide) (he : starEach [.Constant (.str x) j p2] X.env = (false, eval (.Constant (.str x) j p2) X.env) :: starEach [] X.env := by rfl) (hpl : (backTo p3 (starEach [] X.env)).any (·.1) = false := by rfl) :
    PS X (.Raise (some (.Call (.Name n p1) [.Constant (.str x) j p2] [] p3)) none p4) (tRaiseP X.K D C x E) :=
  ps_raise hc tk (pmk_oex (k := 1) R.S.T R.iC I.tI I.ok (hr.mono (by omega)) I.b .nil pass0 hg hm (pa_cons pe_str pa_nil) hdb he hpl)
end DL
namespace DL
open PySem L2
open Evl (Ex)
/-! ## ints in order -/
def insU (x : Int) : List Int → List Int
  | [] => [x]
  | y :: l => if x < y then x :: y :: l else if x = y then y :: l else y :: insU x l
def srt (l : List Int) : List Int := l.foldr insU []
theorem insU_mem (x k : Int) : ∀ l, k ∈ insU x l ↔ k = x ∨ k ∈ l
  | [] => by simp [insU]
  | y :: l => by
    unfold insU
    split
    · simp
    · split
      · rename_i h; subst h; simp
      · rw [List.mem_cons, insU_mem x k l, List.mem_cons]
        constructor <;> (intro h; rcases h with h | h | h <;> simp [h])
theorem insU_asc (x : Int) : ∀ l : List Int, l.Pairwise (· < ·) → (insU x l).Pairwise (· < ·)
  | [], _ => by simp [insU]
  | y :: l, h => by
    obtain ⟨h1, h2⟩ := List.pairwise_cons.mp h
    unfold insU
    split
    · rename_i hx
      refine List.pairwise_cons.mpr ⟨fun z hz => ?_, h⟩
      rcases List.mem_cons.mp hz with e | e
      · rw [e]; exact hx
      · exact Int.lt_trans hx (h1 z e)
    · split
      · exact h
      · rename_i a b
        refine List.pairwise_cons.mpr ⟨fun z hz => ?_, insU_asc x l h2⟩
        rcases (insU_mem x z l).mp hz with e | e
        · omega
        · exact h1 z e
theorem srt_asc (l : List Int) : (srt l).Pairwise (· < ·) := by
  unfold srt
  induction l with
  | nil => exact List.Pairwise.nil
  | cons x l ih => exact insU_asc x _ ih
theorem srt_mem (l : List Int) (k : Int) : k ∈ srt l ↔ k ∈ l := by
  unfold srt
  induction l with
  | nil => simp
  | cons x l ih => rw [List.foldr_cons, insU_mem, ih, List.mem_cons]
theorem asc_ext : ∀ {xs ys : List Int}, xs.Pairwise (· < ·) → ys.Pairwise (· < ·) → (∀ k, k ∈ xs ↔ k ∈ ys) → xs = ys
  | [], [], _, _, _ => rfl
  | [], y :: ys, _, _, h => absurd ((h y).mpr List.mem_cons_self) (by simp)
  | x :: xs, [], _, _, h => absurd ((h x).mp List.mem_cons_self) (by simp)
  | x :: xs, y :: ys, p, q, h => by
    obtain ⟨p1, p2⟩ := List.pairwise_cons.mp p
    obtain ⟨q1, q2⟩ := List.pairwise_cons.mp q
    have e : x = y := by
      rcases List.mem_cons.mp ((h x).mp List.mem_cons_self) with a | a
      · exact a
      · rcases List.mem_cons.mp ((h y).mpr List.mem_cons_self) with b | b
        · exact b.symm
        · have := q1 x a; have := p1 y b; omega
    subst e
    congr 1
    refine asc_ext p2 q2 fun k => ⟨fun hk => ?_, fun hk => ?_⟩
    · rcases List.mem_cons.mp ((h k).mp (List.mem_cons_of_mem _ hk)) with a | a
      · have := p1 k hk; omega
      · exact a
    · rcases List.mem_cons.mp ((h k).mpr (List.mem_cons_of_mem _ hk)) with a | a
      · have := q1 k hk; omega
      · exact a
theorem srt_of {xs ys : List Int} (h : ys.Pairwise (· < ·)) (m : ∀ k, k ∈ ys ↔ k ∈ xs) : ys = srt xs := asc_ext h (srt_asc xs) fun k => (m k).trans (srt_mem xs k).symm
theorem srt_congr {xs ys : List Int} (m : ∀ k, k ∈ xs ↔ k ∈ ys) : srt xs = srt ys := asc_ext (srt_asc _) (srt_asc _) fun k => by rw [srt_mem, srt_mem, m k]
theorem lt_of_le_nd : ∀ {l : List Int}, l.Pairwise (· ≤ ·) → l.Nodup → l.Pairwise (· < ·)
  | [], _, _ => .nil
  | x :: l, p, q => by
    obtain ⟨p1, p2⟩ := List.pairwise_cons.mp p
    obtain ⟨q1, q2⟩ := List.nodup_cons.mp q
    refine List.pairwise_cons.mpr ⟨fun y hy => ?_, lt_of_le_nd p2 q2⟩
    have := p1 y hy
    have : x ≠ y := fun z => q1 (z ▸ hy)
    omega
def rSortDI : List V → Hp → VK → Prop := fun xs H Q => ∃ (a : Addr) (kvs : List (Key × V)) (ks : List Int), xs = [.ref a] ∧ Rd H a (.dK kvs) ∧ kvs.map (·.1) = ks.map Sum.inl ∧ ks.length < 64 ∧
  ∀ (ys : List Int) (p : Addr), ys.Perm ks → ys.Pairwise (· ≤ ·) → H p = none → Q (.ref p) (upd H p (.lst (ys.map V.int)))
theorem cr_sortDI {X : Cx} (hc : X.calm = true) : CallR X (.builtin "sorted") rSortDI := call_sortedDI hc
/-! ## slices of a list or a tuple -/
def rSlR (K : PySem.W.Frag) : V → Option Int → Option Int → Hp → VK → Prop := fun x lo hi H Q => rSlL K x lo hi H Q ∨ rSlT K x lo hi H Q
theorem sl_row {X : Cx} : L2.SlR X (rSlR X.K) := sl_list.or sl_tup
/-! ## a dict of the module with text keys -/
def rNinKd (K : PySem.W.Frag) (d : Addr) : R2 := fun x y H Q => ∃ (z : Str) (r : Option Value), x = .str z ∧ y = .ref d ∧ PySem.W.nsIn K d z = some r ∧ Q (.bl (!r.isSome)) H
/-- what the dict tells of a key -/
def KAt (K : PySem.W.Frag) (w : World) (a : Addr) (x : Str) (v : V) : Prop := KDct K w a x v
/-- a tuple of ints in the ground -/
def KTupI (K : PySem.W.Frag) (a : Addr) (is : List Int) : Prop := ∃ (o : Obj) (its : Array Value) (n : Nat), K.lookup a = some o ∧ o.cls = .type "tuple" ∧ o.data = .seq its n ∧ its.size ≤ sizeLine ∧ Vals (is.map V.int) its.toList
def intsB : List Value → List Int → Bool
  | [], [] => true
  | .int i _ :: us, j :: is => decide (i = j) && intsB us is
  | _, _ => false
def tupInt (o : Obj) (is : List Int) : Bool := match o with
  | ⟨.type "tuple", none, .seq its _, _⟩ => decide (its.size ≤ 1000) && intsB its.toList is
  | _ => false
theorem intsB_vals : ∀ (us : List Value) (is : List Int), intsB us is = true → Vals (is.map V.int) us
  | [], [], _ => .nil
  | u :: us, [], h => by cases u <;> simp [intsB] at h
  | [], j :: is, h => by simp [intsB] at h
  | u :: us, j :: is, h => by
    cases u <;> simp only [intsB, Bool.and_eq_true, decide_eq_true_eq, Bool.false_eq_true] at h
    obtain ⟨rfl, h2⟩ := h
    exact .cons ⟨_, rfl⟩ (intsB_vals us is h2)
section
variable {K : PySem.W.Frag} [LT K] {p : Option Addr} {S S0 S1 S2 S3 : Wd} {B : Hp} {σ σ' : L2.St} {te ta tb tc to : TE} {d d1 d2 d3 e : D} {ds es : List D} {v : V} {m M n k : Nat} {P P1 P2 : D → Prop} {l l' : En} {i j : Nat} {t : Ty} {G : Ends}
theorem eo_sortSetI {P : Program} {w : World} {xs : List Int} (h : EvQ K p ta σ S true (xs.map D.int)) (hz : xs.length ≤ 4000) (h64 : (uniq xs).length < 64) : EvO K p (tSortSetI P w K ta) σ S ((srt xs).map D.int) := fun S1 g Q q =>
  ev_set (fun r => r.ints_inv) h hz S1 g Q fun a S2 g2 t2 ha _ _ => ⟨a, _, rfl, ha, h64, fun ys b hp hm hb => by
    cases srt_of hp fun j => (hm j).trans mem_uniq
    exact q b _ ⟨S2.F, upd S2.H b (.lst ((srt xs).map V.int)), S2.T⟩ (g2.trans (Gr.newO g2.ok hb)) t2 (g2.fresh hb) upd_same (g2.ok.freshF hb) (Rps.ints _)⟩
theorem eo_sortDI {kds : List (Key × D)} {xs : List Int} (h : EvD K p ta σ S (.dic kds)) (hk : kds.map (·.1) = xs.map Sum.inl) (nd : xs.Nodup) (h64 : xs.length < 64) : EvO K p (tCB rSortDI (tCons ta tNil)) σ S ((srt xs).map D.int) := fun S1 g Q q =>
  h S1 g _ fun v S2 g2 t2 rv => by
    cases rv with
    | dic hF hkk rr =>
    rename_i a kvs
    refine ⟨a, kvs, xs, rfl, .inl (g2.ok.sub _ _ hF), hkk.trans hk, h64, fun ys b hp hle hb => ?_⟩
    cases srt_of (lt_of_le_nd hle (hp.nodup_iff.mpr nd)) fun k => hp.mem_iff
    exact q b _ ⟨S2.F, upd S2.H b (.lst ((srt xs).map V.int)), S2.T⟩ (g2.trans (Gr.newO g2.ok hb)) t2 (g2.fresh hb) upd_same (g2.ok.freshF hb) (Rps.ints _)
end
end DL
namespace DL
open PySem L2
open Evl (Ex)
section
variable {K : PySem.W.Frag} [LT K] {p : Option Addr} {S S0 S1 S2 S3 : Wd} {B : Hp} {σ σ' : L2.St} {te ta tb tc to ti : TE} {d d1 d2 d3 e : D} {ds es : List D} {v : V} {m M n k : Nat} {P P1 P2 : D → Prop} {l l' : En} {i j : Nat} {t : Ty} {G : Ends} {w : World}
/-! ## tests that draw -/
/-- at most n draws; true or false -/
def EvTN (K : PySem.W.Frag) [LT K] (p : Option Addr) (tt : TT) (σ : L2.St) (S : Wd) (n : Nat) : Prop := ∀ S1, Gr K p S S1 → S1.T + n ≤ 1000000000 → ∀ Q : Bool → Hp → Prop, (∀ b S2, Gr K p S1 S2 → S2.T ≤ S1.T + n → Q b S2.H) → tt σ S1.H Q
theorem EvT.tn {tt : TT} {b : Bool} (h : EvT K p tt σ S b) : EvTN K p tt σ S 0 := fun S1 g _ Q q => h S1 g Q fun S2 g2 t2 => q b S2 g2 t2
theorem EvTN.le {tt : TT} (h : EvTN K p tt σ S n) (hn : n ≤ k) : EvTN K p tt σ S k := fun S1 g b Q q => h S1 g (by omega) Q fun b' S2 g2 t2 => q b' S2 g2 (by omega)
theorem etn_test (h : EvN K p te σ S n (fun d => ∃ b, d = .bl b)) : EvTN K p (tTest te) σ S n := fun S1 g hb Q q => h S1 g hb _ fun v d S2 g2 t2 r hd => by
  obtain ⟨b, rfl⟩ := hd
  cases r
  exact ⟨b, rfl, q b S2 g2 t2⟩
/-- a draw compared with a number -/
theorem etn_cmp {r : R2} {f : Int → Bool} (ha : EvN K p ta σ S n (fun d => ∃ z : Int, d = .int z)) (hb : EvD K p tb σ S d2) (hr : ∀ z : Int, RD K p r (.int z) d2 (.bl (f z))) : EvTN K p (tTest (tOp r ta tb)) σ S n :=
  etn_test (en_op1 ha hb fun d ⟨z, hz⟩ => ⟨.bl (f z), ⟨_, rfl⟩, hz ▸ hr z⟩)
theorem etn_or {t u : TT} {b : Bool} (h1 : EvT K p t σ S b) (h2 : b = false → EvTN K p u σ S n) : EvTN K p (tOr t u) σ S n := fun S1 g hB Q q => h1 S1 g _ fun S2 g2 t2 => by
  cases b with
  | true => exact q true S2 g2 (by omega)
  | false => exact h2 rfl S2 (g.trans g2) (by omega) _ fun b' S3 g3 t3 => q b' S3 (g2.trans g3) (by omega)
theorem en_ifTN {tt : TT} (h : EvTN K p tt σ S n) (h1 : EvN K p ta σ S k P) (h2 : EvN K p tb σ S k P) : EvN K p (tIf tt ta tb) σ S (n + k) P := fun S1 g hB Q q => h S1 g (by omega) _ fun b S2 g2 t2 => by
  cases b with
  | true =>
    show (if true = true then _ else _)
    rw [if_pos rfl]
    exact h1 S2 (g.trans g2) (by omega) Q fun v d S3 g3 t3 r hp => q v d S3 (g2.trans g3) (by omega) r hp
  | false =>
    show (if false = true then _ else _)
    rw [if_neg Bool.false_ne_true]
    exact h2 S2 (g.trans g2) (by omega) Q fun v d S3 g3 t3 r hp => q v d S3 (g2.trans g3) (by omega) r hp
theorem s_ifTN {tt : TT} {tu tw : TS} (h : Sta K p S0 B m M n σ S l) (he : EvTN K p tt σ S k) (hn : n + k ≤ M) (k1 : ∀ S', Sta K p S0 B m M (n + k) σ S' l → tu G σ S'.H) (k2 : ∀ S', Sta K p S0 B m M (n + k) σ S' l → tw G σ S'.H) : tIfS tt tu tw G σ S.H :=
  he S (Gr.refl h.ok) (by have := h.tb; have := h.tn; omega) _ fun b S2 g2 t2 => by
    cases b with
    | true =>
      show (if true = true then _ else _)
      rw [if_pos rfl]
      exact k1 S2 (h.grow g2 t2)
    | false =>
      show (if false = true then _ else _)
      rw [if_neg Bool.false_ne_true]
      exact k2 S2 (h.grow g2 t2)
/-! ## return x if c else y -/
theorem s_retIf {tt : TT} {b : Bool} (h : Sta K p S0 B m M n σ S l) (he : EvT K p tt σ S b) (k1 : b = true → ∀ S', Sta K p S0 B m M n σ S' l → tRet ta G σ S'.H) (k2 : b = false → ∀ S', Sta K p S0 B m M n σ S' l → tRet tb G σ S'.H) : tRet (tIf tt ta tb) G σ S.H :=
  he S (Gr.refl h.ok) _ fun S2 g2 t2 => by
    have h2 := h.grow0 g2 t2
    cases b with
    | true =>
      show (if true = true then _ else _)
      rw [if_pos rfl]
      exact k1 rfl S2 h2
    | false =>
      show (if false = true then _ else _)
      rw [if_neg Bool.false_ne_true]
      exact k2 rfl S2 h2
/-! ## x, y, z = a tuple -/
theorem s_unp3 {i1 i2 i3 : Nat} (h : Sta K p S0 B m M n σ S l) (he : EvD K p te σ S (.tup [d1, d2, d3])) (h1 : i1 < m) (h2 : i2 < m) (h3 : i3 < m) (kk : ∀ σ' S', Sta K p S0 B m M n σ' S' (put i3 (.dat d3) (put i2 (.dat d2) (put i1 (.dat d1) l))) → G.nx σ' S'.H) :
    tAsg te (gTup K 3 (gCons (gName i1) (gCons (gName i2) (gCons (gName i3) gNil)))) G σ S.H :=
  he S (Gr.refl h.ok) _ fun v S2 g2 t2 rv => by
    cases rv with
    | tup hsq rr =>
    cases rr with
    | cons r1 rr =>
    cases rr with
    | cons r2 rr =>
    cases rr with
    | cons r3 rr =>
    cases rr
    have H2 := h.grow0 g2 t2
    have s1 := H2.set (t := .dat d1) h1 r1 (fun z => by cases z)
    have s2 := s1.set (t := .dat d2) h2 r2 (fun z => by cases z)
    have s3 := s2.set (t := .dat d3) h3 r3 (fun z => by cases z)
    exact ⟨_, _, rfl, Evl.ex_t g2.ok.sub hsq, rfl, _, _, rfl, _, _, rfl, _, _, rfl, rfl, kk _ S2 s3⟩
/-! ## slices of rows -/
/-- the same kind of row, other items -/
def likeD (d : D) (es : List D) : D := match d with
  | .tup _ => .tup es
  | _ => .lst es
theorem cut_from {α : Type} (xs : List α) : cutL xs (some 1) none = xs.drop 1 := by
  unfold cutL
  have e : HT.sIx xs.length 0 (some 1) = min 1 xs.length := HT.sIx_nat xs.length 0 1
  have e2 : HT.sIx xs.length xs.length none = xs.length := rfl
  rw [e, e2]
  cases xs with
  | nil => rfl
  | cons x xs =>
    have e3 : min 1 (x :: xs).length = 1 := by simp
    rw [e3, List.drop_one, List.tail_cons, List.length_cons, Nat.add_sub_cancel, List.take_length]
theorem cut_upto {α : Type} (xs : List α) (k : Nat) (hk : k + 1 ≤ xs.length) : cutL xs (some 1) (some (1 + (k : Int))) = (xs.drop 1).take k := by
  unfold cutL
  have e : HT.sIx xs.length 0 (some 1) = min 1 xs.length := HT.sIx_nat xs.length 0 1
  have e2 : HT.sIx xs.length xs.length (some (1 + (k : Int))) = min (1 + k) xs.length := by
    have := HT.sIx_nat xs.length xs.length (1 + k)
    rw [← this]
    rfl
  rw [e, e2, show min 1 xs.length = 1 by omega, show min (1 + k) xs.length = 1 + k by omega, Nat.add_sub_cancel_left]
theorem ed_slRL {tl th : TO} {lo hi : Option Int} (ha : EvD K p ta σ S (.lst ds)) (hl : EvB K p tl σ S lo) (hh : EvB K p th σ S hi) : EvD K p (tSl (rSlR K) ta tl th) σ S (.lst (cutL ds lo hi)) := fun S1 g Q q =>
  ha S1 g _ fun v S2 g2 t2 rv => hl S2 (g.trans g2) _ fun S3 g3 t3 => hh S3 ((g.trans g2).trans g3) _ fun S4 g4 t4 => by
    cases rv with
    | lst hF rr =>
    rename_i av xv
    refine .inl ⟨_, _, rfl, .of ((g2.trans (g3.trans g4)).ok.sub _ _ ((g3.trans g4).ff _ _ hF)), fun q' hq' => ?_⟩
    have gg := Gr.new (o := .lst (cutV xv lo hi)) g4.ok hq'
    exact q _ _ ((g2.trans (g3.trans g4)).trans gg) (by show S4.T ≤ _; omega) (.lst upd_same ((((rr.mono (g3.trans g4).ff).cut lo hi)).mono gg.ff))
theorem ed_slRT {tl th : TO} {lo hi : Option Int} (ha : EvD K p ta σ S (.tup ds)) (hl : EvB K p tl σ S lo) (hh : EvB K p th σ S hi) (hw : ¬ (HT.sIx ds.length 0 lo = 0 ∧ HT.sIx ds.length ds.length hi = ds.length)) : EvD K p (tSl (rSlR K) ta tl th) σ S (.tup (cutL ds lo hi)) := fun S1 g Q q =>
  ha S1 g _ fun v S2 g2 t2 rv => hl S2 (g.trans g2) _ fun S3 g3 t3 => hh S3 ((g.trans g2).trans g3) _ fun S4 g4 t4 => by
    cases rv with
    | tup hF rr =>
    rename_i av xv
    refine .inr ⟨_, _, rfl, Evl.ex_t (g2.trans (g3.trans g4)).ok.sub (Evl.ex_t (g3.trans g4).ff hF), by rw [rr.length]; exact hw, fun q' hq' => ?_⟩
    have gg := Gr.new (o := .tup (cutV xv lo hi)) g4.ok hq'
    exact q _ _ ((g2.trans (g3.trans g4)).trans gg) (by show S4.T ≤ _; omega) (.tup (.inl (.inl upd_same)) ((((rr.mono (g3.trans g4).ff).cut lo hi)).mono gg.ff))
theorem ed_slR {tl th : TO} {lo hi : Option Int} (ha : EvD K p ta σ S d) (hd : rowD d = some ds) (hl : EvB K p tl σ S lo) (hh : EvB K p th σ S hi) (hw : ¬ (HT.sIx ds.length 0 lo = 0 ∧ HT.sIx ds.length ds.length hi = ds.length)) : EvD K p (tSl (rSlR K) ta tl th) σ S (likeD d (cutL ds lo hi)) := by
  cases d <;> simp only [rowD, Option.some.injEq, reduceCtorEq] at hd
  · subst hd; exact ed_slRL ha hl hh
  · subst hd; exact ed_slRT ha hl hh hw
theorem from1 {n : Nat} (h : 1 ≤ n) (hi : Option Int) : ¬ (HT.sIx n 0 (some 1) = 0 ∧ HT.sIx n n hi = n) := fun z => by
  have e : HT.sIx n 0 (some 1) = min 1 n := HT.sIx_nat n 0 1
  rw [e] at z
  omega
/-! ## a dict of the module with text keys -/
theorem rd_ninKd {z : Str} {a : Addr} {r : Option Value} (h : PySem.W.nsIn K a z = some r) : RD K p (rNinKd K a) (.str z) (.val (.ref a)) (.bl (!r.isSome)) := rd_of (fun _ => .bl _) fun S1 x y o rx ry Q q => by
  cases rx
  cases ry
  exact ⟨z, r, rfl, rfl, h, q⟩
theorem rd_ixKd {z : Str} {a : Addr} (h : KDct K w a z v) (hv : ∀ F, Rp K F v d) : RD K p (rIxD K w) (.val (.ref a)) (.str z) d := rd_of hv fun S1 x y o rx ry Q q => by
  cases rx
  cases ry
  exact ⟨a, z, v, rfl, rfl, h, q⟩
theorem KTupI.rp {a : Addr} {is : List Int} (h : KTupI K a is) : ∀ F, Rp K F (.ref a) (.tup (is.map D.int)) := fun F => by
  obtain ⟨o, its, n, h1, h2, h3, h4, h5⟩ := h
  exact .tup (.inr ⟨o, its, n, h1, h2, h3, h4, h5⟩) (Rps.ints is)
/-! ## a display's get -/
/-- a display of texts and numbers -/
def dispT (ps : List (Str × Int)) : List (TE × TE) := ps.map fun q => (tC (.str q.1), tC (.int q.2))
def dispK (ps : List (Str × Int)) : List (Key × V) := ps.map fun q => (.inr q.1, .int q.2)
theorem disp_pairs {H : Hp} : ∀ (ps : List (Str × Int)) (Q : List (V × V) → Hp → Prop), Q ((dispK ps).map fun kv => (kV kv.1, kv.2)) H → tPairs (dispT ps) σ H Q
  | [], Q, q => q
  | a :: ps, Q, q => disp_pairs ps (fun r H' => Q ((V.str a.1, V.int a.2) :: r) H') q
/-- {..}.get(text) -/
theorem ed_getDisp {z : Str} {ps : List (Str × Int)} (hn : ps.length ≤ 15) (hv : valV (mergeK [] (dispK ps)) (.inr z) = r) (ht : EvD K p te σ S (.str z)) (hr : ∀ F, Rp K F (r.getD .non) d) : EvD K p (tDGet1 (tDisp (dispT ps)) te) σ S d := fun S1 g Q q => by
  intro A hA
  refine disp_pairs ps _ ⟨upd_same, dispK ps, rfl, by unfold dispK; rw [List.length_map]; exact hn, A, rfl, .inl ⟨_, .inl upd_same⟩, ?_⟩
  have e : upd (upd S1.H A (.dK [])) A (.dK (mergeK [] (dispK ps))) = upd S1.H A (.dK (mergeK [] (dispK ps))) := by
    funext b
    by_cases h : b = A
    · subst h; rw [upd_same, upd_same]
    · rw [upd_ne h, upd_ne h, upd_ne h]
  rw [e]
  have g2 : Gr K p S1 ⟨S1.F, upd S1.H A (.dK (mergeK [] (dispK ps))), S1.T⟩ := Gr.newO g.ok hA
  refine ht _ (g.trans g2) _ fun v S3 g3 t3 rv => ?_
  cases rv
  refine ⟨r, ?_, q _ S3 (g2.trans g3) t3 (hr _)⟩
  rw [← hv]
  exact DGet.k (k := .inr z) (g3.hh A _ upd_same (ok_ne g.ok hA))
/-! ## own lists and dicts -/
theorem s_setLN {z : Int} {c : Nat} (h : Sta K p S0 B m M n σ S l) (hg : get l i = some (.own ds)) (he : EvN K p te σ S k P) (hi : EvD K p ti σ S (.int z)) (hc : ixN ds.length z = some c) (hn : n + k ≤ M)
    (kk : ∀ d S', P d → Sta K p S0 B m M (n + k) σ S' (put i (.own (ds.set c d)) l) → G.nx σ S'.H) : tAsg te (gSub (tVar i) ti rSetL) G σ S.H := by
  obtain ⟨v, e, a, vs, rfl, h1, h2, h3, h4⟩ := h.has _ (get_mem hg)
  refine he S (Gr.refl h.ok) (by have := h.tb; have := h.tn; omega) _ fun y d S2 g2 t2 ry hd => ⟨_, e, hi S2 g2 _ fun x S3 g3 t3 rx => ?_⟩
  cases rx
  have H2 := h.grow (k := k) (g2.trans g3) (by omega)
  have e1 := g3.hh _ _ (g2.hh _ _ h1 (ok_ne h.ok0 h4)) (ok_ne h.ok0 h4)
  refine ⟨a, vs, z, c, rfl, rfl, e1, by rw [h2.length]; exact hc, ?_⟩
  exact kk d ⟨S3.F, upd S3.H a (.lst (vs.set c y)), S3.T⟩ hd (H2.chg hg e e1 (Rps.set (ry.mono g3.ff) c ((h2.mono g2.ff).mono g3.ff)))
/-- a dict of ours is handed out -/
theorem s_retDic {kds : List (Key × D)} (h : Sta K p S0 B m M n σ S l) (hg : get l i = some (.odc kds)) (kk : ∀ v S', S'.H = S.H → Gr K p S0 S' → S'.T ≤ S0.T + n → Rp K S'.F v (.dic kds) → G.rt v S'.H) : tRet (tVar i) G σ S.H := by
  obtain ⟨v, e, a, kvs, rfl, h1, hk, h2, h3, h4⟩ := h.has _ (get_mem hg)
  exact ⟨_, e, kk (.ref a) ⟨upd S.F a (.dK kvs), S.H, S.T⟩ rfl (h.g.fix h4 h1 h3 (ok_ne h.ok0 h4)) h.tn (.dic upd_same hk (h2.mono (Ex.new h3)))⟩
/-- an own dict changes -/
theorem Sta.chgD {a : Addr} {kvs kvs2 : List (Key × V)} {kds kds2 : List (Key × D)} (h : Sta K p S0 B m M n σ S l) (hg : get l i = some (.odc kds)) (e : σ[i]? = some (some (.ref a))) (h1 : S.H a = some (.dK kvs)) (hk : kvs2.map (·.1) = kds2.map (·.1)) (r : Rps K S.F (kvs2.map (·.2)) (kds2.map (·.2))) :
    Sta K p S0 B m M n σ ⟨S.F, upd S.H a (.dK kvs2), S.T⟩ (put i (.odc kds2) l) := by
  obtain ⟨v, e', b, us, rfl, h1', hk', h2, h3, h4⟩ := h.has _ (get_mem hg)
  rw [e] at e'
  cases e'
  have hp := ok_ne h.ok0 h4
  have g : Gr K p S0 ⟨S.F, upd S.H a (.dK kvs2), S.T⟩ := Gr.chg h.ok0 h.g h4 h3 h1 (fun ps z => by cases z) code_ne_dK
  refine ⟨h.ok0, g, h.bs, h.len, h.tb, h.tn, fun q hq => ?_, fun x hx y hy hne ox oy v hv => ?_⟩
  · unfold put at hq
    rcases List.mem_cons.mp hq with hq | hq
    · subst hq
      exact ⟨_, e, a, kvs2, rfl, upd_same, hk, r, h3, h4⟩
    · obtain ⟨hq1, hq2⟩ := del_mem hq
      obtain ⟨u, eu, hu⟩ := h.has q hq1
      refine ⟨u, eu, ?_⟩
      have apart : ∀ c, u = .ref c → q.2.ow = true → c ≠ a := fun c hc ho z => by
        subst hc
        subst z
        exact h.sep q hq1 (i, .odc kds) (get_mem hg) hq2 ho rfl _ eu e
      cases q with
      | mk qi qt =>
        cases qt with
        | dat d => exact hu
        | val w => exact hu
        | own es =>
          obtain ⟨c, xs, hc, q1, q2, q3, q4⟩ := hu
          exact ⟨c, xs, hc, by show upd S.H a _ c = _; rw [upd_ne (apart c hc rfl)]; exact q1, q2, q3, q4⟩
        | odc es =>
          obtain ⟨c, xs, hc, q1, q2, q3, q4, q5⟩ := hu
          exact ⟨c, xs, hc, by show upd S.H a _ c = _; rw [upd_ne (apart c hc rfl)]; exact q1, q2, q3, q4, q5⟩
  · have back : ∀ {x : Nat × Ty}, x ∈ put i (.odc kds2) l → x.2.ow = true → ∃ x' ∈ l, x'.1 = x.1 ∧ x'.2.ow = true := fun {x} hx ox => by
      unfold put at hx
      rcases List.mem_cons.mp hx with z | z
      · subst z
        exact ⟨(i, .odc kds), get_mem hg, rfl, rfl⟩
      · exact ⟨x, (del_mem z).1, rfl, ox⟩
    obtain ⟨x', hx', ex, ox'⟩ := back hx ox
    obtain ⟨y', hy', ey, oy'⟩ := back hy oy
    rw [← ex] at hv hne
    rw [← ey] at hne ⊢
    exact h.sep x' hx' y' hy' hne ox' oy' v hv
/-- x[k] = e, x a dict of ours -/
theorem s_dput {kds : List (Key × D)} {kk : Key} (h : Sta K p S0 B m M n σ S l) (hg : get l i = some (.odc kds)) (hi : EvD K p ti σ S (kD kk)) (he : EvD K p te σ S d) (hz : kds.length < sizeLine)
    (k : ∀ S', Sta K p S0 B m M n σ S' (put i (.odc (putG kds kk d)) l) → G.nx σ S'.H) : sDPut (tVar i) ti te G σ S.H := by
  obtain ⟨v, e, a, kvs, rfl, h1, hk, h2, h3, h4⟩ := h.has _ (get_mem hg)
  refine he S (Gr.refl h.ok) _ fun y S2 g2 t2 ry => ⟨_, e, hi S2 g2 _ fun x S3 g3 t3 rx => ?_⟩
  have ex := kD_kV rx
  subst ex
  have H2 := h.grow0 (g2.trans g3) (by omega)
  have e1 := g3.hh _ _ (g2.hh _ _ h1 (ok_ne h.ok0 h4)) (ok_ne h.ok0 h4)
  have hl : kvs.length < sizeLine := by
    have q := congrArg List.length hk
    rw [List.length_map, List.length_map] at q
    omega
  refine ⟨a, _, rfl, DPut.k e1 hl, ?_⟩
  obtain ⟨pk, pr⟩ := rps_put (k := kk) hk ((h2.mono g2.ff).mono g3.ff) (ry.mono g3.ff)
  exact k ⟨S3.F, upd S3.H a (.dK (putK kvs kk y)), S3.T⟩ (H2.chgD hg e e1 pk pr)
end
end DL
namespace PySem
open PySem.Spec PySem.Builtin
theorem dl_ext_tup (l : Addr) (xs : Array Value) (n : Nat) (b : Addr) (ys : Array Value) (n2 : Nat) (od : Option Addr) (sl : Array (Option Value)) (h0 : ¬(!xs.isEmpty && Builtin.List.listTooLong (xs.size + ys.size)) = true) (h1 : xs.size ≤ sizeLine) (h2 : xs.size + ys.size ≤ sizeLine + 1) :
    Meets (Builtin.«list.extend» ⟨[.ref l, .ref b], []⟩) (fun _ R s => s.heap.get? l = some { cls := .type "list", dict := none, data := .seq xs n, slots := #[] } ∧
      s.heap.get? b = some { cls := .type "tuple", dict := od, data := .seq ys n2, slots := sl } ∧ R (.ok (.ret Value.none)) { s with heap := s.heap.update l (Obj.mapSeq fun x => x ++ ys), toks := s.toks }) :=
  .of_wp fun prog w A R s h => by
    obtain ⟨hp, g, d, tk, os⟩ := s
    obtain ⟨hl, hb, h⟩ := h
    have f1 := AutoSeq1.idx_int
    have f2 := AutoSeq1.sub_tuple_tuple
    have f3 := AutoSeq1.sub_list_list
    have f4 := AutoSeq1.sub_tuple_list
    have f5 := AutoSeq1.sub_list_tuple
    have hz' : (xs ++ ys).size ≤ sizeLine + 1 := by
      rw [Array.size_append]
      exact h2
    wp_walk using (wpAny_updateSeq hl rfl (hz := h1) (_hz' := hz')), wpAny_loadPart' hl, wpAny_loadPart' hb
    exact ⟨_, rfl, h⟩
end PySem
namespace DL
open PySem PySem.Spec PyProof.Rows L2
def rExtT (K : PySem.W.Frag) : V → List V → Hp → VK → Prop := fun x vs H Q => ∃ l b xs zs, x = .ref l ∧ vs = [.ref b] ∧ H l = some (.lst xs) ∧ SqT K H b zs ∧ xs.length + zs.length ≤ sizeLine ∧ Q .non (upd H l (.lst (xs ++ zs)))
theorem mt_extT {X : Cx} : MtM X "list.extend" (rExtT X.K) := by
  intro pins s σ H x vs v us Q I rx rv h
  obtain ⟨l, b, xs, zs, rfl, rfl, hH, hB, hz, q⟩ := h
  cases rx
  obtain ⟨u, rfl, ru⟩ := rv.one
  cases ru
  obtain ⟨z, its, n, r, hl, e⟩ := I.lstM hH
  obtain ⟨ts, r2, ⟨⟨oc, od, odat, osl⟩, e2, hc, n2, hd⟩, z2⟩ := I.tuple hB
  dsimp only at hc hd
  subst hc
  subst hd
  have hl2 := r2.length
  have few : its.toArray.size + ts.toArray.size ≤ sizeLine := by rw [List.size_toArray, List.size_toArray, ← hl, ← hl2]; exact hz
  have short : ¬ (!its.toArray.isEmpty && Builtin.List.listTooLong (its.toArray.size + ts.toArray.size)) = true := fun t => by
    rw [notLongL few, Bool.and_false] at t
    cases t
  refine call_meets F.slot_list_extend ⟨_, e, rfl⟩ F.entry_list_extend (F.args_list_extend_2 _ _) (PySem.dl_ext_tup l its.toArray n b ts.toArray n2 od osl short (by rw [List.size_toArray, ← hl]; exact z) (by omega)) ⟨e, e2, ?_⟩
  exact ⟨.non, _, I.lset (its' := its ++ ts) hH e (by simp) (r.append r2) (by rw [List.length_append]; exact hz), rfl, q⟩
def rExtR (K : PySem.W.Frag) : V → List V → Hp → VK → Prop := fun x xs H Q => rExtend x xs H Q ∨ rExtT K x xs H Q
theorem mt_extR {X : Cx} : MtM X "list.extend" (rExtR X.K) := fun pins s σ H x xs v us Q I rx rv h => h.elim (fun z => mt_extend pins s σ H x xs v us Q I rx rv z) fun z => mt_extT pins s σ H x xs v us Q I rx rv z
section
variable {K : PySem.W.Frag} [LT K] {p : Option Addr} {S S0 : Wd} {B : Hp} {σ : L2.St} {te : TE} {d : D} {ds es : List D} {m M n : Nat} {l : En} {i : Nat} {G : Ends}
/-- x.extend(a row) -/
theorem s_extR (h : Sta K p S0 B m M n σ S l) (hg : get l i = some (.own ds)) (he : EvD K p te σ S d) (hd : rowD d = some es) (hz : ds.length + es.length ≤ sizeLine) (k : ∀ S', Sta K p S0 B m M n σ S' (put i (.own (ds ++ es)) l) → G.nx σ S'.H) :
    tDrop (tBM K "list" (rExtR K) (tVar i) (tCons te tNil)) G σ S.H := by
  obtain ⟨v, e, a, vs, rfl, h1, h2, h3, h4⟩ := h.has _ (get_mem hg)
  refine ⟨_, e, .inl ⟨rfl, vs, .of h1⟩, he S (Gr.refl h.ok) _ fun y S2 g2 t2 ry => ?_⟩
  have H2 := h.grow0 g2 t2
  have e1 := g2.hh _ _ h1 (ok_ne h.ok0 h4)
  cases d <;> simp only [rowD, Option.some.injEq, reduceCtorEq] at hd
  · subst hd
    cases ry with
    | lst hF rx =>
    rename_i b xs
    refine .inl ⟨a, b, vs, xs, rfl, rfl, e1, g2.ok.sub _ _ hF, by rw [h2.length, rx.length]; exact hz, ?_⟩
    exact k ⟨S2.F, upd S2.H a (.lst (vs ++ xs)), S2.T⟩ (H2.chg hg e e1 ((h2.mono g2.ff).append rx))
  · subst hd
    cases ry with
    | tup hF rx =>
    rename_i b xs
    refine .inr ⟨a, b, vs, xs, rfl, rfl, e1, Evl.ex_t g2.ok.sub hF, by rw [h2.length, rx.length]; exact hz, ?_⟩
    exact k ⟨S2.F, upd S2.H a (.lst (vs ++ xs)), S2.T⟩ (H2.chg hg e e1 ((h2.mono g2.ff).append rx))
end
end DL
namespace DL
open PySem L2
theorem op_ninKd {X : Cx} {d : Addr} (D : ∃ es n, KDict X.K X.w d es n) : OpR X (compareOp .NotIn) (rNinKd X.K d) := by
  obtain ⟨es, n, D⟩ := D
  exact op_notIn_kd D
end DL
namespace DL
open PySem L2
/-- the name of a lambda of a def -/
abbrev lamQ (qual : Str) : Str := (PyProof.Rows.envOfC qual { kind := .function, names := [], isGenerator := false, isCoroutine := false, more := [] } 0 0 .none).qual ++ "<lambda>"
end DL
namespace DL
open PySem L2 PyProof.Rows
instance lt_nox {X : Cx} [h : LT X.K] : LT X.nox.K := h
instance lt_tr {X : Cx} {pn : List (Addr × Obj)} {xe : Value → Shared → Prop} [h : LT X.K] : LT (X.tr pn xe).K := h
instance lt_suite {X : Cx} {a : Addr} {pn : List (Addr × Obj)} [h : LT X.K] : LT (X.suite a pn).K := h
instance lt_cx {CX : CXT} {P : Program} {w : World} {K : PySem.W.Frag} {mg : Str → Option Value} {base : Heap} {N : List Str} {q : Str} {sc : Scope} {f : Addr} {cdv : Value} {A : Around} {outer : List Env} {s : Shared} {H : Hp} {E : XK} [h : LT K] : LT (cxOf CX P w K mg base N q sc f cdv A outer s H E).K := h
end DL
namespace DL
open PySem PySem.Spec PyProof.Rows L2
/-- the same, the tables told by the names of the defs that make lambdas -/
def LawAtN (l : PySem.W.OpenLaw) (q : Program) (w : World) (K : PySem.W.Frag) (CX : CXT) (k n : Nat) (x : Str) (mg : Str → Option Value) (fa : Addr) : Prop :=
  ∃ (fd : FuncData) (cs : List (Str × Addr × Addr)) (sp : Sp), (∀ t ∈ cs, (∃ d, (recsOf q).find? (fun e => e.name == t.1) = some d) ∧ PySem.W.tabIn K t.1 = some t.2 ∧ K.lookup t.2.2 = none) ∧ (∀ (s : Shared) (u : Value), BindsTo s fd ⟨[u], []⟩ [(x, u)]) ∧
    (∀ (H : Hp) (a : Addr) (ns : List Int), ns.length ≤ n → (∀ t ∈ cs, H t.2.2 = some (.tbl #[])) → (∀ b ps, H b = some (.tbl ps) → ∃ t ∈ cs, b = t.2.2) → SqL K H a (ns.map V.int) → sp [.ref a] H (fun v _ => v = .bl true) fun _ _ _ => False) ∧
    ∀ base : Heap, K.In base → base.Ns mainGlobals mg → (∀ t ∈ cs, LamX.TabB base mg t.2.1 t.2.2) → GnOk l.prog w K mg base CX k fa fd [x] sp
theorem walk_ofGN {l : PySem.W.OpenLaw} {n k : Nat} {q : Program} {loose : List Str} {XP : (Str → Option Value) → Heap → Prop} {YP : World → Heap → Prop} {d : DefRec} {K : Params → PySem.W.Frag} {x : Str}
    (hn : l.most = some n) (hn2 : n ≤ sizeLine) (hdf : d.params.defaults = []) (hr : Room k callerA) (hY : ∀ (w : World) (h : Heap), YP w h → (K w.params).In h)
    (F : ∀ (w : World) (mg : Str → Option Value) (fa : Addr) (h : Heap), (K w.params).In h → h.Ns mainGlobals mg → mg d.name = some (.ref fa) → LawAtN l q w (K w.params) CX0 k n x mg fa) :
    PySem.W.WalkO q loose XP YP l.row.toRowW d [] (fun f vs => PySem.call f vs) := by
  refine Att.attach_call hn hdf fun w s₀ s₁ mg mb fa o pm cd doc a vs ns G Y ho hd hcd hmg hobj hints hlen hg => ?_
  have KX := hY w _ Y
  obtain ⟨fd, cs, sp, hC, hb, hsp, hF⟩ := F w mg fa _ KX G.T.g hmg
  have at_ : ∀ p ∈ cs.map (·.2), PySem.W.CodeHd s₁.heap p.1 p.2 ∧ s₁.heap.get? p.2 = some tblO ∧ (K w.params).lookup p.2 = none := fun p hp => by
    obtain ⟨t, ht, rfl⟩ := List.mem_map.mp hp
    obtain ⟨⟨d', h1⟩, h2, h3⟩ := hC t ht
    obtain ⟨q1, q2⟩ := PySem.W.tab_of G.T KX h1 h2
    exact ⟨q1, q2, h3⟩
  exact callGT (cs := cs.map (·.2)) KX G.T.g G.T.b G.T.builtins G.T.nolimit hg (fun p hp => (at_ p hp).2.1) (fun p hp => (at_ p hp).2.2) (fun p hp => (at_ p hp).1) G.T.bmain hobj hints (Nat.le_trans hlen hn2) hr
    (fun base h1 h2 h3 => hF base h1 h2 fun t ht => h3 t.2 (List.mem_map_of_mem ht)) hb
    (fun H h1 h2 hS => hsp H a ns hlen (fun t ht => h1 t.2 (List.mem_map_of_mem ht)) (fun b ps e => by
      have m := h2 b ps e
      rw [List.map_map] at m
      obtain ⟨t, ht, rfl⟩ := List.mem_map.mp m
      exact ⟨t, ht, rfl⟩) hS) fun H e s' h => h
/-! ## the facts of the end -/
theorem kdct_of {K : PySem.W.Frag} {w : World} {a b : Addr} {x : Str} (D : ∃ es n, KDict K w a es n) (h : PySem.W.nsIn K a x = some (some (.ref b))) : KDct K w a x (.ref b) := by
  obtain ⟨es, n, D⟩ := D
  exact ⟨es, n, .ref b, D.at_, D.lit, h, rfl⟩
theorem KTupI.of {K : PySem.W.Frag} {a : Addr} {o : Obj} {is : List Int} (l : K.lookup a = some o) (h : tupInt o is = true) : KTupI K a is := by
  unfold tupInt at h
  split at h
  · rename_i its n sl
    simp only [Bool.and_eq_true, decide_eq_true_eq] at h
    exact ⟨_, its, n, l, rfl, rfl, Nat.le_trans h.1 (by rw [sizeLine_eq]; decide), intsB_vals _ _ h.2⟩
  · cases h
theorem tabIn_mk {K : PySem.W.Frag} {x : Str} {f c P : Addr} {oc : Value} {od : Option Addr} {fd : FuncData} {osl : Array (Option Value)} {cl : Value} {cd : Option Addr} {vs : Array Value} {cs : Array (Option Value)} (h1 : PySem.W.nsIn K mainGlobals x = some (some (.ref f))) (h2 : K.lookup f = some ⟨oc, od, .func fd, osl⟩)
    (h3 : K.lookup c = some ⟨cl, cd, .fields vs, cs⟩) (h4 : vs[11]? = some (.ref P)) (h5 : fd.code = .ref c := by rfl) : PySem.W.tabIn K x = some (c, P) := by
  unfold PySem.W.tabIn
  rw [h1]
  simp only [h2, h5, h3, h4]
end DL
namespace DL
open PySem L2
open Evl (Ex)
/-! ## what k34 wanted and other laws will want -/
theorem Sta.rebase {K : PySem.W.Frag} [LT K] {p : Option Addr} {S0 S : Wd} {B : Hp} {m M n M' : Nat} {σ : L2.St} {l : En} (h : Sta K p S0 B m M n σ S l) (hl : l.all (fun q => !q.2.ow) = true) (hT : S.T + M' ≤ 1000000000) : Sta K p S B m M' 0 σ S l := by
  have no : ∀ q ∈ l, q.2.ow = false := fun q hq => by
    have := List.all_eq_true.mp hl q hq
    simpa using this
  refine ⟨h.ok, Gr.refl h.ok, h.bs, h.len, hT, Nat.le_refl _, fun q hq => ?_, fun a ha b hb _ oa => ?_⟩
  · obtain ⟨v, e, r⟩ := h.has q hq
    refine ⟨v, e, ?_⟩
    have nq := no q hq
    cases q with
    | mk i t => cases t <;> first | exact r | cases nq
  · rw [no a ha] at oa
    cases oa
def fstD : D → D
  | .tup (a :: _) => a
  | _ => .non
def sndD : D → D
  | .tup (_ :: b :: _) => b
  | _ => .non
def truD : D → Bool
  | .bl b => b
  | _ => false
section
variable {K : PySem.W.Frag} [LT K] {p : Option Addr} {S S0 : Wd} {B : Hp} {σ : L2.St} {te ta tb : TE} {m M n k : Nat} {l : En} {i : Nat} {G : Ends}
theorem s_ifE {tu tw : TS} {b : Bool} (h : Sta K p S0 B m M n σ S l) (he : EvN K p te σ S k (fun d => d = .bl b)) (hn : n + k ≤ M) (k1 : b = true → ∀ S', Sta K p S0 B m M (n + k) σ S' l → tu G σ S'.H) (k2 : b = false → ∀ S', Sta K p S0 B m M (n + k) σ S' l → tw G σ S'.H) : tIfS (tTest te) tu tw G σ S.H :=
  he S (Gr.refl h.ok) (by have := h.tb; have := h.tn; omega) _ fun v d S2 g2 t2 r e => by
    subst e
    cases r
    refine ⟨b, rfl, ?_⟩
    cases b with
    | true =>
      show (if true = true then _ else _)
      rw [if_pos rfl]
      exact k1 rfl S2 (h.grow g2 t2)
    | false =>
      show (if false = true then _ else _)
      rw [if_neg Bool.false_ne_true]
      exact k2 rfl S2 (h.grow g2 t2)
theorem s_forN {α : Type} {wi : TI} {tb : TS} {w : Nat} {PS : List DL.D → Prop} (I : Nat → α → Prop) (e : α → En) (a0 : α) (h : Sta K p S0 B m M n σ S l) (hq : EvSN K p wi σ S k PS) (hn : n + k ≤ M) (hi : i < m) (h0 : I 0 a0) (hs : sub (e a0) l)
    (hb : ∀ (ds : List DL.D), PS ds → ∀ (B' : Hp) (c : Nat) (a : α) (d : DL.D) σ S, ds[c]? = some d → I c a → Sta K p S0 B' m M (n + k + c * w) σ S (put i (.dat d) (e a)) → ∀ D' : Ends, D'.rt = G.rt → (∀ a' σ' S' l', I (c + 1) a' → Sta K p S0 B' m M (n + k + (c + 1) * w) σ' S' l' → sub (e a') l' → D'.nx σ' S'.H) → tb D' σ S.H)
    (hd : ∀ (ds : List DL.D), PS ds → ∀ a σ S, I ds.length a → Sta K p S0 B m M (n + k + ds.length * w) σ S (e a) → G.nx σ S.H) : tFor wi (gName i) tb G σ S.H := by
  refine hq S (Gr.refl h.ok) (by have := h.tb; have := h.tn; omega) _ fun J ds S2 g2 t2 hds src => ?_
  have h2 := h.grow g2 t2
  exact s_for (wi := fun _ H R => R J H) I e a0 h2 (fun S1 g1 R q => q J S1 (Gr.refl g1.ok) (Nat.le_refl _) fun S' e' o c => src S' (g1.ff.trans e') o c) hi h0 hs (fun B' c a d σ S hc ia st D' hrt nx _ _ => hb ds hds B' c a d σ S hc ia st D' hrt nx) (hd ds hds)
end
theorem rd_neSame {K : PySem.W.Frag} [LT K] {p : Option Addr} {d : D} (h : d.sh = true) : RD K p (rNeU K) d d (.bl false) := by
  have q := rd_neU (K := K) (p := p) h h
  have e : eqD d d = true := PySem.SeqAt.eqv_refl _ (PySem.SeqAt.canLay_of_shaped (D.sh_sh h))
  rw [e] at q
  exact q
theorem pls_ints : ∀ ss : List Int, D.pls (ss.map D.int) = true
  | [] => by simp [D.pls]
  | s :: ss => by simp [D.pls, D.pl, pls_ints ss]
theorem pys_ints : ∀ ss : List Int, D.pys (ss.map D.int) = ss.map PyData.int
  | [] => by simp [D.pys]
  | s :: ss => by simp [D.pys, D.py, pys_ints ss]
theorem canLay_ints : ∀ ss : List Int, PyData.canLayAll0 (ss.map PyData.int) = true
  | [] => by simp [PyData.canLayAll0]
  | s :: ss => by simp [PyData.canLayAll0, PyData.canLay0, canLay_ints ss]
theorem depth_ints : ∀ ss : List Int, PyData.depthAll (ss.map PyData.int) = 0
  | [] => by simp [PyData.depthAll]
  | s :: ss => by simp [PyData.depthAll, PyData.depth, depth_ints ss]
theorem uniq_le (L : List Int) : (uniq L).length ≤ L.length := uniq_short L
theorem len_sub : ∀ {xs ys : List Int}, xs.Nodup → (∀ k ∈ xs, k ∈ ys) → xs.length ≤ ys.length
  | [], _, _, _ => Nat.zero_le _
  | x :: xs, ys, nd, h => by
    obtain ⟨h1, h2⟩ := List.nodup_cons.mp nd
    have hx := h x List.mem_cons_self
    have := len_sub (xs := xs) (ys := ys.erase x) h2 fun k hk => (List.mem_erase_of_ne (fun e => h1 (by rw [← e]; exact hk))).mpr (h k (List.mem_cons_of_mem _ hk))
    rw [List.length_erase_of_mem hx] at this
    have : 0 < ys.length := List.length_pos_of_mem hx
    rw [List.length_cons]
    omega
theorem row_items {d : D} {es : List D} (h : rowD d = some es) : itemsD d = some es := by
  cases d <;> simp only [rowD, Option.some.injEq, reduceCtorEq] at h <;> subst h <;> rfl
theorem rd_neI {K : PySem.W.Frag} [LT K] {p : Option Addr} {a b : Int} : RD K p (rNeU K) (.int a) (.int b) (.bl (!decide (a = b))) := RD.inl (rd_of (fun _ => .bl _) fun S1 x y o rx ry Q q => by
  cases rx; cases ry
  have e : decide (V.int a = V.int b) = decide (a = b) := by
    by_cases h : a = b
    · subst h; simp
    · rw [decide_eq_false h, decide_eq_false (fun z => h (V.int.inj z))]
  exact ⟨rfl, by rw [e]; exact q⟩)
theorem rowQ {K : PySem.W.Frag} [LT K] {p : Option Addr} {te : TE} {σ : L2.St} {S : Wd} {d : D} {es : List D} (h : EvD K p te σ S d) (hd : rowD d = some es) : ∃ b, EvQ K p te σ S b es := by
  cases d <;> simp only [rowD, Option.some.injEq, reduceCtorEq] at hd <;> subst hd
  · exact ⟨true, h.ql⟩
  · exact ⟨false, h.qt⟩
theorem ed_at {K : PySem.W.Frag} [LT K] {p : Option Addr} {ta tb : TE} {σ : L2.St} {S : Wd} {d e : D} {es : List D} {z : Int} (h : EvD K p ta σ S d) (hd : rowD d = some es) (hz : EvD K p tb σ S (.int z)) (he : atI es z = some e) : EvD K p (tOp (rIx K) ta tb) σ S e := by
  obtain ⟨b, q⟩ := rowQ h hd
  exact ed_ix q hz he
theorem ed_lenR {K : PySem.W.Frag} [LT K] {p : Option Addr} {ta : TE} {σ : L2.St} {S : Wd} {d : D} {es : List D} (h : EvD K p ta σ S d) (hd : rowD d = some es) (hz : es.length ≤ 16777216) : EvD K p (tCB (rLenA K) (tCons ta tNil)) σ S (.int (es.length : Int)) :=
  ed_cb (eh_cons h.h eh_nil) (items_len (row_items hd) (by rw [sizeLine_eq]; exact hz))
theorem at0 {x : D} {r : List D} : atI (x :: r) 0 = some x := by
  unfold atI ixN
  rw [if_pos (by decide), if_pos (by simp only [List.length_cons]; omega)]
  rfl
theorem at_last {es : List D} {l : D} (h : es.getLast? = some l) : atI es (-1) = some l := by
  cases es with
  | nil => cases h
  | cons x r =>
    unfold atI ixN
    rw [if_neg (by decide), if_pos (by simp only [List.length_cons]; omega)]
    simp only [Option.bind]
    rw [List.getLast?_eq_getElem?] at h
    rw [← h]
    congr 1
    simp only [List.length_cons]
    omega
theorem cut_pre {α : Type} (xs : List α) (k : Nat) (hk : k ≤ xs.length) : cutL xs none (some (k : Int)) = xs.take k := by
  unfold cutL
  have e : HT.sIx xs.length 0 none = 0 := rfl
  rw [e, HT.sIx_nat, show min k xs.length = k by omega]
  rfl
theorem cut_post {α : Type} (xs : List α) (k : Nat) (hk : k ≤ xs.length) : cutL xs (some (k : Int)) none = xs.drop k := by
  unfold cutL
  have e : HT.sIx xs.length xs.length none = xs.length := rfl
  rw [e, HT.sIx_nat, show min k xs.length = k by omega]
  rw [List.take_of_length_le (by rw [List.length_drop]; omega)]
theorem split3 {es : List D} {c : Nat} {x : D} (h : es[c]? = some x) : es = es.take c ++ x :: es.drop (c + 1) := by
  obtain ⟨hc, he⟩ := List.getElem?_eq_some_iff.mp h
  rw [← he, ← List.drop_eq_getElem_cons hc, List.take_append_drop]
theorem set3 {es : List D} {c : Nat} {x y : D} (h : es[c]? = some x) : es.set c y = es.take c ++ y :: es.drop (c + 1) := by
  obtain ⟨hc, _⟩ := List.getElem?_eq_some_iff.mp h
  rw [List.set_eq_take_append_cons_drop, if_pos hc]
theorem inD_str (s : Str) (ss : List Str) : inD (.str s) (ss.map D.str) = ss.contains s := by
  unfold inD
  rw [List.any_map, List.contains_eq_any_beq]
  congr 1
  funext z
  show (z == s) = (s == z)
  exact Bool.eq_iff_iff.mpr (by rw [beq_iff_eq, beq_iff_eq]; exact eq_comm)
theorem flat_str (ss : List Str) : (ss.map D.str).all flatD = true := by
  rw [List.all_map]
  exact List.all_eq_true.mpr fun _ _ => rfl
theorem addU_nd {zs : List Int} {i : Int} (h : zs.Nodup) : (addU zs i).Nodup := by
  unfold addU
  split
  · exact h
  · rename_i hn
    refine List.nodup_append.mpr ⟨h, by simp, fun a ha b hb e => ?_⟩
    rw [List.mem_singleton.mp hb] at e
    exact hn (List.any_eq_true.mpr ⟨a, ha, decide_eq_true e⟩)
theorem addU_len2 (zs : List Int) (i : Int) : (addU zs i).length ≤ zs.length + 1 := by
  unfold addU
  split <;> simp
theorem addU_inl : ∀ (zs : List Int) (i : Int), addU (zs.map Sum.inl : List Key) (Sum.inl i) = (addU zs i).map Sum.inl := fun zs i => by
  unfold addU
  have e : ((zs.map Sum.inl : List Key).any fun z => decide (z = Sum.inl i)) = zs.any fun z => decide (z = i) := by
    rw [List.any_map]
    congr 1
    funext z
    simp
  rw [e]
  split
  · rfl
  · rw [List.map_append]
    rfl
end DL
/-! ## papers.fixed: a loop over a line of (row, its parts so far); the parts are lists that still change -/
namespace DL
open PySem L2
open Evl (Ex)
/-! ### plainly -/
mutual
/-- tuples for lists, all the way in -/
def fixD : D → D
  | .lst xs => .tup (fixDs xs)
  | .tup xs => .tup (fixDs xs)
  | .non => .non
  | .bl b => .bl b
  | .int i => .int i
  | .str s => .str s
  | .dic kvs => .dic kvs
  | .ins C fs => .ins C fs
  | .val v => .val v
def fixDs : List D → List D
  | [] => []
  | x :: xs => fixD x :: fixDs xs
end
mutual
/-- all that is come to is of a known kind -/
def fine : D → Bool
  | .lst xs => fines xs
  | .tup xs => fines xs
  | .val _ => false
  | .non => true
  | .bl _ => true
  | .int _ => true
  | .str _ => true
  | .dic _ => true
  | .ins _ _ => false
def fines : List D → Bool
  | [] => true
  | x :: xs => fine x && fines xs
end
mutual
def turns : D → Nat
  | .lst xs => turnsR xs
  | .tup xs => turnsR xs
  | _ => 1
def turnsR : List D → Nat
  | [] => 1
  | x :: xs => 1 + turns x + turnsR xs
end
theorem fixDs_map : ∀ xs : List D, fixDs xs = xs.map fixD
  | [] => rfl
  | x :: xs => by rw [fixDs, fixDs_map xs]; rfl
theorem fixD_row {d : D} {es : List D} (h : rowD d = some es) : fixD d = .tup (es.map fixD) := by
  cases d <;> simp only [rowD, Option.some.injEq, reduceCtorEq] at h <;> subst h <;> simp only [fixD, fixDs_map]
theorem fine_row {d : D} {es : List D} (h : rowD d = some es) (f : fine d = true) : fines es = true := by
  cases d <;> simp only [rowD, Option.some.injEq, reduceCtorEq] at h <;> subst h <;> simpa only [fine] using f
theorem fine_mem : ∀ {es : List D}, fines es = true → ∀ e ∈ es, fine e = true
  | [], _, e, h => by cases h
  | x :: xs, f, e, h => by
    rw [fines, Bool.and_eq_true] at f
    rcases List.mem_cons.mp h with rfl | h
    · exact f.1
    · exact fine_mem f.2 e h
theorem fixD_leaf {d : D} (h : rowD d = none) : fixD d = d := by
  cases d <;> first | rfl | cases h
theorem turns_row {d : D} {es : List D} (h : rowD d = some es) : turns d = turnsR es := by
  cases d <;> simp only [rowD, Option.some.injEq, reduceCtorEq] at h <;> subst h <;> simp only [turns]
/-! ### the line -/
/-- a row on the line: none: not begun; (p, ds): its parts so far, in the list at p -/
structure Fra where
  d : D
  p : Option (Addr × List D)
def Fra.pv : Fra → D
  | ⟨_, none⟩ => .non
  | ⟨_, some (p, _)⟩ => .val (.ref p)
def Fra.ad : Fra → List Addr
  | ⟨_, none⟩ => []
  | ⟨_, some (p, _)⟩ => [p]
section
variable {K : PySem.W.Frag} [LT K] {S S0 S1 S2 : Wd} {σ : L2.St} {te ta tb : TE} {d e : D} {ds es : List D} {v : V} {i : Nat} {G : Ends} {a q : Addr}
/-- an own list outside the slots -/
def Part (K : PySem.W.Frag) [LT K] (S0 S : Wd) (q : Addr) (ds : List D) : Prop := ∃ ws, S.H q = some (.lst ws) ∧ Rps K S.F ws ds ∧ S.F q = none ∧ S0.H q = none
theorem Part.grow (h : Part K S0 S q ds) (g : Gr K none S S1) : Part K S0 S1 q ds := by
  obtain ⟨ws, h1, h2, h3, h4⟩ := h
  exact ⟨ws, g.hh q _ h1 (by simp), h2.mono g.ff, (g.old q (by rw [h1]; simp)).trans h3, h4⟩
theorem Part.put {ws : List V} (h : Part K S0 S q ds) (n : q ≠ a) : Part K S0 ⟨S.F, upd S.H a (.lst ws), S.T⟩ q ds := by
  obtain ⟨us, h1, h2, h3, h4⟩ := h
  exact ⟨us, by rw [← h1]; exact upd_ne n, h2, h3, h4⟩
/-- the line at a holds these rows; nothing else knows its lists -/
structure FS (K : PySem.W.Frag) [LT K] (S0 S : Wd) (σ : L2.St) (a : Addr) (fs : List Fra) : Prop where
  g : Gr K none S0 S
  t : S.T ≤ S0.T
  len : σ.length = 5
  slot : σ[2]? = some (some (.ref a))
  line : Part K S0 S a (fs.map fun f => .tup [f.d, f.pv])
  parts : ∀ f ∈ fs, ∀ q ds, f.p = some (q, ds) → Part K S0 S q ds
  nd : (a :: fs.flatMap Fra.ad).Nodup
theorem FS.ok {fs : List Fra} (h : FS K S0 S σ a fs) : Ok K none S := h.g.ok
theorem FS.grow {fs : List Fra} (h : FS K S0 S σ a fs) (g : Gr K none S S1) (t : S1.T ≤ S.T) : FS K S0 S1 σ a fs :=
  ⟨h.g.trans g, Nat.le_trans t h.t, h.len, h.slot, h.line.grow g, fun f hf q ds e => (h.parts f hf q ds e).grow g, h.nd⟩
theorem FS.set {fs : List Fra} (h : FS K S0 S σ a fs) (hi : i ≠ 2) : FS K S0 S (σ.set i (some v)) a fs :=
  ⟨h.g, h.t, by rw [List.length_set]; exact h.len, by rw [List.getElem?_set_ne hi]; exact h.slot, h.line, h.parts, h.nd⟩
theorem ad_mem {f : Fra} {ds : List D} (e : f.p = some (q, ds)) : q ∈ f.ad := by
  obtain ⟨d, p⟩ := f
  cases e
  exact List.mem_singleton.mpr rfl
theorem FS.off {fs : List Fra} (h : FS K S0 S σ a fs) {f : Fra} (hf : f ∈ fs) {ds : List D} (e : f.p = some (q, ds)) : q ≠ a := fun z => by
  have := (List.nodup_cons.mp h.nd).1
  exact this (List.mem_flatMap.mpr ⟨f, hf, z ▸ ad_mem e⟩)
/-- the line is written -/
theorem FS.lay {fs fs' : List Fra} {ws : List V} (h : FS K S0 S σ a fs) (ok0 : Ok K none S0) (r : Rps K S.F ws (fs'.map fun f => .tup [f.d, f.pv])) (ps : ∀ f ∈ fs', ∀ q ds, f.p = some (q, ds) → Part K S0 S q ds) (nd : (a :: fs'.flatMap Fra.ad).Nodup) :
    FS K S0 ⟨S.F, upd S.H a (.lst ws), S.T⟩ σ a fs' := by
  obtain ⟨us, h1, h2, h3, h4⟩ := h.line
  refine ⟨Gr.chg ok0 h.g h4 h3 h1 (fun ps z => by cases z) (fun c q z => code_ne_lst c q z) (nt := fun ps z => by cases z), h.t, h.len, h.slot, ⟨ws, upd_same, r, h3, h4⟩, fun f hf q ds e => (ps f hf q ds e).put fun z => ?_, nd⟩
  exact (List.nodup_cons.mp nd).1 (List.mem_flatMap.mpr ⟨f, hf, z ▸ ad_mem e⟩)
/-- a list that is not the line's is written -/
theorem FS.other {fs : List Fra} {ws : List V} (h : FS K S0 S σ a fs) (ok0 : Ok K none S0) (hq : Part K S0 S q ds) (n : q ∉ a :: fs.flatMap Fra.ad) : FS K S0 ⟨S.F, upd S.H q (.lst ws), S.T⟩ σ a fs := by
  obtain ⟨us, h1, h2, h3, h4⟩ := hq
  refine ⟨Gr.chg ok0 h.g h4 h3 h1 (fun ps z => by cases z) (fun c q z => code_ne_lst c q z) (nt := fun ps z => by cases z), h.t, h.len, h.slot, h.line.put fun z => n (z ▸ List.mem_cons_self), fun f hf q' ds' e => (h.parts f hf q' ds' e).put fun z => ?_, h.nd⟩
  exact n (List.mem_cons_of_mem _ (List.mem_flatMap.mpr ⟨f, hf, z ▸ ad_mem e⟩))
/-! ### steps -/
theorem r_asg (ok : Ok K none S) (he : EvD K none te σ S d) (k : ∀ v S1, Gr K none S S1 → S1.T ≤ S.T → Rp K S1.F v d → G.nx (σ.set i (some v)) S1.H) : tAsg te (gName i) G σ S.H :=
  he S (Gr.refl ok) _ k
theorem r_if {tt : TT} {tu tw : TS} {b : Bool} (ok : Ok K none S) (he : EvT K none tt σ S b) (k1 : b = true → ∀ S1, Gr K none S S1 → S1.T ≤ S.T → tu G σ S1.H) (k2 : b = false → ∀ S1, Gr K none S S1 → S1.T ≤ S.T → tw G σ S1.H) : tIfS tt tu tw G σ S.H :=
  he S (Gr.refl ok) _ fun S1 g t => by
    cases b with
    | true => rw [if_pos rfl]; exact k1 rfl S1 g t
    | false => rw [if_neg Bool.false_ne_true]; exact k2 rfl S1 g t
theorem eq_part (h : Part K S0 S q ds) (hs : σ[i]? = some (some (.ref q))) : EvQ K none (tVar i) σ S true ds := fun S1 g Q k => by
  obtain ⟨ws, h1, h2, _, _⟩ := h.grow g
  exact ⟨.ref q, hs, k q ws S1 (Gr.refl g.ok) (Nat.le_refl _) (by rw [if_pos rfl]; exact ⟨h1, by simp⟩) h2⟩
theorem et_line {fs : List Fra} (h : FS K S0 S σ a fs) : EvT K none (tTest (tOp (rNeU K) (tVar 2) (tLst tNil))) σ S (!fs.isEmpty) :=
  EvT.is (et_test (ed_op (EvQ.hl (eq_part h.line h.slot)) (EvO.h (eo_lst ea_nil)) rd_neNil)) (by cases fs <;> rfl)
theorem et_end {fs : List Fra} (h : FS K S0 S σ a fs) : EvT K none (tTest (tOp (rEqU K) (tVar 2) (tLst tNil))) σ S fs.isEmpty :=
  EvT.is (et_test (ed_op (EvQ.hl (eq_part h.line h.slot)) (EvO.h (eo_lst ea_nil)) rd_eqNil)) (by cases fs <;> rfl)
/-- line.append((..)): a row more -/
theorem r_push {fs : List Fra} {f : Fra} (h : FS K S0 S σ a fs) (ok0 : Ok K none S0) (few : fs.length < sizeLine)
    (he : ∀ Q : VK, (∀ v S1, Gr K none S S1 → S1.T ≤ S.T → Rp K S1.F v (.tup [f.d, f.pv]) → (∀ q ds, f.p = some (q, ds) → Part K S0 S1 q ds) → Q v S1.H) → te σ S.H Q) (nd : (a :: (fs ++ [f]).flatMap Fra.ad).Nodup)
    (k : ∀ S1, FS K S0 S1 σ a (fs ++ [f]) → Ex S.F S1.F → G.nx σ S1.H) : tDrop (tBM K "list" rAppend (tVar 2) (tCons te tNil)) G σ S.H := by
  obtain ⟨us, h1, h2, _, _⟩ := h.line
  refine ⟨.ref a, h.slot, .inl ⟨rfl, us, .of h1⟩, he _ fun v S1 g t r ps => ?_⟩
  have h' := h.grow g t
  obtain ⟨ws, w1, w2, _, _⟩ := h'.line
  have len : ws.length = fs.length := by rw [w2.length, List.length_map]
  refine ⟨a, ws, v, rfl, rfl, w1, by omega, ?_⟩
  refine k ⟨S1.F, upd S1.H a (.lst (ws ++ [v])), S1.T⟩ (h'.lay ok0 (by rw [List.map_append]; exact w2.snoc r) (fun f' hf q ds e => ?_) nd) g.ff
  rcases List.mem_append.mp hf with z | z
  · exact h'.parts f' z q ds e
  · rw [List.mem_singleton.mp z] at e
    exact ps q ds e
/-- one, parts = line.pop() -/
theorem r_take {fs : List Fra} {f : Fra} (h : FS K S0 S σ a (fs ++ [f])) (ok0 : Ok K none S0)
    (k : ∀ (x y : V) S1, FS K S0 S1 ((σ.set 3 (some x)).set 4 (some y)) a fs → S1.F = S.F → Rp K S1.F x f.d → Rp K S1.F y f.pv → (∀ q ds, f.p = some (q, ds) → Part K S0 S1 q ds ∧ q ∉ a :: fs.flatMap Fra.ad) → G.nx ((σ.set 3 (some x)).set 4 (some y)) S1.H) :
    tAsg (tBM0 K "list" rPop (tVar 2)) (gTup K 2 (gCons (gName 3) (gCons (gName 4) gNil))) G σ S.H := by
  obtain ⟨us, h1, h2, _, _⟩ := h.line
  have nd2 : (a :: fs.flatMap Fra.ad).Nodup := by
    have := h.nd
    rw [List.flatMap_append] at this
    exact this.sublist (List.cons_sublist_cons.mpr (List.sublist_append_left _ _))
  rw [List.map_append, List.map_singleton] at h2
  obtain ⟨ws, z, rfl, w1, w2⟩ : ∃ ws z, us = ws ++ [z] ∧ Rps K S.F ws (fs.map fun f => .tup [f.d, f.pv]) ∧ Rp K S.F z (.tup [f.d, f.pv]) := by
    have lens := h2.length
    rw [List.length_append, List.length_singleton, List.length_map] at lens
    rcases List.eq_nil_or_concat us with e | ⟨ws, z, e⟩
    · rw [e] at lens; cases lens
    · rw [List.concat_eq_append] at e
      subst e
      rw [List.length_append, List.length_singleton] at lens
      have r1 := h2.take ws.length
      have r2 := h2.drop ws.length
      have l1 : ws.length = (fs.map fun f => D.tup [f.d, f.pv]).length := by rw [List.length_map]; omega
      rw [List.take_left' rfl, List.take_left' l1.symm] at r1
      rw [List.drop_left' rfl, List.drop_left' l1.symm] at r2
      cases r2 with
      | cons r3 _ => exact ⟨ws, z, rfl, r1, r3⟩
  have J := h.lay (ws := ws) ok0 w1 (fun f' hf q ds e => h.parts f' (List.mem_append_left _ hf) q ds e) nd2
  refine ⟨.ref a, h.slot, .inl ⟨rfl, _, .of h1⟩, a, ws ++ [z], z, rfl, rfl, h1, by simp, ?_⟩
  rw [List.dropLast_concat]
  cases w2 with
  | @tup t xs _ hs rs =>
    cases rs with
    | cons rx rs =>
      cases rs with
      | cons ry rs =>
        cases rs
        refine ⟨t, _, rfl, Evl.ex_t J.ok.sub hs, rfl, _, _, rfl, _, _, rfl, rfl, ?_⟩
        refine k _ _ ⟨S.F, upd S.H a (.lst ws), S.T⟩ ((J.set (by decide)).set (by decide)) rfl rx ry fun q ds e => ?_
        have off : q ∉ a :: fs.flatMap Fra.ad := fun m => by
          have := h.nd
          rw [List.flatMap_append, List.flatMap_singleton, ← List.cons_append] at this
          exact (List.nodup_append.mp this).2.2 q m q (ad_mem e) rfl
        exact ⟨(h.parts f (List.mem_append_right _ (List.mem_singleton.mpr rfl)) q ds e).put fun m => off (m ▸ List.mem_cons_self), off⟩
end
end DL
/-! ## questions of a value's kind; fixed -/
namespace DL
open PySem L2
open Evl (Ex)
def h0 (ds : List D) : D := ds.headD .non
def h1 (ds : List D) : D := ds.getD 1 .non
def h2 (ds : List D) : D := ds.getD 2 .non
/-- of a known kind -/
def kn (d : D) : Prop := tyD d ≠ none
def isIntD : D → Bool
  | .int _ => true
  | _ => false
def isStrD : D → Bool
  | .str _ => true
  | _ => false
def isTupD : D → Bool
  | .tup _ => true
  | _ => false
def isRowD : D → Bool
  | .lst _ => true
  | .tup _ => true
  | _ => false
theorem kn_row {d : D} (h : kn d) : isiD2 "list" "tuple" d = some (isRowD d) := by
  rw [isi_row]
  cases d <;> first | rfl | exact absurd rfl h
theorem kn_str {d : D} (h : kn d) : isiD "str" d = some (isStrD d) := by
  rw [isi_str]
  cases d <;> first | rfl | exact absurd rfl h
theorem kn_tup {d : D} (h : kn d) : isiD "tuple" d = some (isTupD d) := by
  rw [isi_tup]
  cases d <;> first | rfl | exact absurd rfl h
mutual
def sz : D → Nat
  | .lst xs => 1 + szs xs
  | .tup xs => 1 + szs xs
  | _ => 1
def szs : List D → Nat
  | [] => 0
  | x :: xs => sz x + szs xs
end
theorem row_is {d : D} {es : List D} (h : rowD d = some es) : isRowD d = true := by
  cases d <;> first | rfl | cases h
theorem row_of {d : D} (h : isRowD d = true) : ∃ es, rowD d = some es := by
  cases d <;> first | exact ⟨_, rfl⟩ | cases h
theorem row_not {d : D} (h : isRowD d = false) : rowD d = none := by
  cases d <;> first | rfl | cases h
theorem row_sz {d : D} {es : List D} (h : rowD d = some es) : sz d = 1 + szs es := by
  cases d <;> simp only [rowD, Option.some.injEq, reduceCtorEq] at h <;> subst h <;> simp only [sz]
theorem sz_pos (d : D) : 1 ≤ sz d := by
  cases d <;> simp [sz]
theorem szs_len : ∀ es : List D, es.length ≤ szs es
  | [] => Nat.zero_le _
  | e :: es => by
    have := szs_len es
    have := sz_pos e
    simp only [szs, List.length_cons]
    omega
theorem szs_app (xs ys : List D) : szs (xs ++ ys) = szs xs + szs ys := by
  induction xs with
  | nil => simp [szs]
  | cons x xs ih => simp only [List.cons_append, szs, ih]; omega
theorem szs_mem {es : List D} {e : D} (h : e ∈ es) : sz e ≤ szs es := by
  induction es with
  | nil => cases h
  | cons x xs ih =>
    simp only [szs]
    rcases List.mem_cons.mp h with rfl | h
    · omega
    · have := ih h; omega
theorem fine_kn {d : D} (h : fine d = true) : kn d := by
  cases d <;> simp only [fine, reduceCtorEq, Bool.false_eq_true] at h <;> (unfold kn; simp [tyD])
abbrev spRow (K : PySem.W.Frag) [LT K] : Sp := spP K 1 (fun ds => kn (h0 ds)) (fun ds => .bl (isRowD (h0 ds)))
abbrev spFixed (K : PySem.W.Frag) [LT K] : Sp := spP K 1 (fun ds => fine (h0 ds) = true ∧ sz (h0 ds) ≤ 1000000) (fun ds => fixD (h0 ds))
/-! ### a loop by what its turns do -/
section
variable (c : TT) (tb : TS) (D : Ends)
/-- from here the loop comes to its end within m turns -/
def Good (m : Nat) (σ : L2.St) (H : Hp) : Prop :=
  c σ H fun b H1 => if b = true then ∃ N : L2.St → Hp → Prop, (∀ σ' H', N σ' H' → ∃ m', ∃ _ : m' < m, Good m' σ' H') ∧ tb { D with nx := N, ct := N, bk := D.nx } σ H1 else D.nx σ H1
termination_by m
theorem Good.eq (m : Nat) (σ : L2.St) (H : Hp) : Good c tb D m σ H = c σ H fun b H1 => if b = true then ∃ N : L2.St → Hp → Prop, (∀ σ' H', N σ' H' → ∃ m', m' < m ∧ Good c tb D m' σ' H') ∧ tb { D with nx := N, ct := N, bk := D.nx } σ H1 else D.nx σ H1 := by
  rw [Good]
  simp only [exists_prop]
theorem Good.loop {m : Nat} {σ : L2.St} {H : Hp} (h : Good c tb D m σ H) : tWhile c tb D σ H := ⟨Good c tb D, ⟨m, h⟩, fun m σ H w => by rwa [Good.eq] at w⟩
end
def pushA (K : PySem.W.Frag) : TS := tDrop (tBM K "list" rAppend (tVar 2) (tCons (tTup (tCons (tVar 3) (tCons (tLst tNil) tNil))) tNil))
def pushB (K : PySem.W.Frag) : TS := tDrop (tBM K "list" rAppend (tVar 2) (tCons (tTup (tCons (tOp (rIx K) (tVar 3) (tC (.int 0))) (tCons (tC .non) tNil))) tNil))
def pushC (K : PySem.W.Frag) : TS := tDrop (tBM K "list" rAppend (tVar 2) (tCons (tTup (tCons (tVar 3) (tCons (tVar 4) tNil))) tNil))
def pushD (K : PySem.W.Frag) : TS := tDrop (tBM K "list" rAppend (tVar 2) (tCons (tTup (tCons (tOp (rIx K) (tVar 3) (tCB (rLenA K) (tCons (tVar 4) tNil))) (tCons (tC .non) tNil))) tNil))
def ended (K : PySem.W.Frag) : TS := tIfS (tTest (tOp (rEqU K) (tVar 2) (tLst tNil))) (tRet (tVar 1)) tNext
def begun (K : PySem.W.Frag) : TS := tSeq (pushA K) (tSeq (tAsg (tC .non) (gName 1)) (tSeq (tIfS (tTest (tOp (rI0 fun i j => .bl (decide (j < i))) (tCB (rLenA K) (tCons (tVar 3) tNil)) (tC (.int 0)))) (tSeq (pushB K) tCont) tNext) (tSeq (tDrop (tBM0 K "list" rPop (tVar 2))) (tAsg (tTup tNil) (gName 1)))))
def goneOn (K : PySem.W.Frag) : TS := tSeq (tDrop (tBM K "list" rAppend (tVar 4) (tCons (tVar 1) tNil))) (tSeq (tIfS (tTest (tOp (rI0 fun i j => .bl (decide (i < j))) (tCB (rLenA K) (tCons (tVar 4) tNil)) (tCB (rLenA K) (tCons (tVar 3) tNil)))) (tSeq (pushC K) (tSeq (pushD K) tCont)) tNext) (tAsg (tCB (rTuple K) (tCons (tVar 4) tNil)) (gName 1)))
def turnT (K : PySem.W.Frag) [LT K] : TS := tSeq (tAsg (tBM0 K "list" rPop (tVar 2)) (gTup K 2 (gCons (gName 3) (gCons (gName 4) gNil)))) (tSeq (tIfS (tNot (tB (tCall (spRow K) [] E0 (tCons (tVar 3) tNil)))) (tAsg (tVar 3) (gName 1)) (tIfS (tTest (tOp rIsN (tVar 4) (tC .non))) (begun K) (goneOn K))) (ended K))
def fixedT (K : PySem.W.Frag) [LT K] : TS := tSeq (tPar 1 2 (tCons (tC .non) (tCons (tLst (tCons (tTup (tCons (tVar 0) (tCons (tC .non) tNil))) tNil)) tNil))) (tSeq (tWhile (tTest (tOp (rNeU K) (tVar 2) (tLst tNil))) (turnT K)) (tRet (tVar 1)))
section
variable {K : PySem.W.Frag} [LT K] {S0 S S1 : Wd} {σ : L2.St} {a q : Addr} {G : Ends} {d e : D} {ds es : List D} {fs : List Fra} {m k : Nat}
/-- the loop's own test -/
abbrev lineT (K : PySem.W.Frag) : TT := tTest (tOp (rNeU K) (tVar 2) (tLst tNil))
abbrev GoodF (K : PySem.W.Frag) [LT K] (G : Ends) : Nat → L2.St → Hp → Prop := Good (lineT K) (turnT K) G
/-- a value is done, rows wait for it -/
def BSt (K : PySem.W.Frag) [LT K] (S0 : Wd) (a : Addr) (fs : List Fra) (e : D) (σ : L2.St) (H : Hp) : Prop := ∃ S v, S.H = H ∧ FS K S0 S σ a fs ∧ σ[1]? = some (some v) ∧ Rp K S.F v e
/-- what is behind a value that is done -/
structure Kont (K : PySem.W.Frag) [LT K] (S0 : Wd) (a : Addr) (G : Ends) (fs : List Fra) (e : D) (k : Nat) : Prop where
  last : fs = [] → ∀ v S, Gr K none S0 S → S.T ≤ S0.T → Rp K S.F v e → G.rt v S.H
  more : fs ≠ [] → ∀ σ H, BSt K S0 a fs e σ H → GoodF K G k σ H
abbrev next (K : PySem.W.Frag) [LT K] (G : Ends) (m : Nat) : L2.St → Hp → Prop := fun σ H => ∃ m', m' < m ∧ GoodF K G m' σ H
abbrev ends (K : PySem.W.Frag) [LT K] (G : Ends) (m : Nat) : Ends := { G with nx := next K G m, ct := next K G m, bk := G.nx }
theorem one_turn (h : FS K S0 S σ a fs) (ne : fs ≠ []) (t : ∀ S1, Gr K none S S1 → FS K S0 S1 σ a fs → turnT K (ends K G m) σ S1.H) : GoodF K G m σ S.H := by
  show Good _ _ _ _ _ _
  rw [Good.eq]
  refine et_line h S (Gr.refl h.ok) _ fun S1 g t1 => ?_
  have e : (!fs.isEmpty) = true := by cases fs <;> first | rfl | exact absurd rfl ne
  rw [e, if_pos rfl]
  exact ⟨next K G m, fun _ _ x => x, t S1 g (h.grow g t1)⟩
theorem end_turn (h : FS K S0 S σ a fs) {v : V} (hv : σ[1]? = some (some v)) (r : Rp K S.F v e) (kt : Kont K S0 a G fs e k) (hk : k < m) : ended K (ends K G m) σ S.H := by
  refine r_if h.ok (et_end h) (fun b S1 g t => ?_) (fun b S1 g t => ?_)
  · have h' := h.grow g t
    refine ⟨v, hv, kt.last ?_ v S1 h'.g h'.t (r.mono g.ff)⟩
    cases fs <;> first | rfl | cases b
  · refine ⟨k, hk, kt.more ?_ _ _ ⟨S1, v, rfl, h.grow g t, hv, r.mono g.ff⟩⟩
    rintro rfl
    cases b
theorem nd_push (h : FS K S0 S σ a fs) : (a :: (fs ++ [(⟨d, none⟩ : Fra)]).flatMap Fra.ad).Nodup := by
  rw [List.flatMap_append, List.flatMap_singleton]
  show (a :: (fs.flatMap Fra.ad ++ [])).Nodup
  rw [List.append_nil]
  exact h.nd
theorem nd_part (h : FS K S0 S σ a fs) (off : q ∉ a :: fs.flatMap Fra.ad) : (a :: (fs ++ [(⟨d, some (q, ds)⟩ : Fra)]).flatMap Fra.ad).Nodup := by
  rw [List.flatMap_append, List.flatMap_singleton]
  show ((a :: fs.flatMap Fra.ad) ++ [q]).Nodup
  exact List.nodup_append.mpr ⟨h.nd, List.nodup_cons.mpr ⟨List.not_mem_nil, .nil⟩, fun x hx y hy z => off (by rw [← List.mem_singleton.mp hy, ← z]; exact hx)⟩
/-- a row that is not begun is laid on the line -/
theorem push_go {te : TE} (h : FS K S0 S σ a fs) (ok0 : Ok K none S0) (few : fs.length < sizeLine) (he : EvD K none te σ S d) (k : ∀ S1, FS K S0 S1 σ a (fs ++ [⟨d, none⟩]) → Ex S.F S1.F → G.nx σ S1.H) :
    tDrop (tBM K "list" rAppend (tVar 2) (tCons (tTup (tCons te (tCons (tC .non) tNil))) tNil)) G σ S.H :=
  r_push h ok0 few (fun Q q => ed_tup (ea_cons he (ea_cons ed_non ea_nil)) (by rw [sizeLine_eq]; exact Nat.le_of_ble_eq_true rfl) S (Gr.refl h.ok) Q fun v S1 g t r => q v S1 g t r fun _ _ z => by cases z) (nd_push h) k
/-- a row with its parts is laid on the line -/
theorem push_at (h : FS K S0 S σ a fs) (ok0 : Ok K none S0) (few : fs.length < sizeLine) {x : V} (h3 : σ[3]? = some (some x)) (r : Rp K S.F x d) (h4 : σ[4]? = some (some (.ref q))) (pt : Part K S0 S q ds) (off : q ∉ a :: fs.flatMap Fra.ad) (k : ∀ S1, FS K S0 S1 σ a (fs ++ [⟨d, some (q, ds)⟩]) → Ex S.F S1.F → G.nx σ S1.H) :
    pushC K G σ S.H :=
  r_push h ok0 few (fun Q k2 => ed_tup (ea_cons (ed_slot h3 r) (ea_cons (ed_slot h4 (.val (.ref q))) ea_nil)) (by rw [sizeLine_eq]; exact Nat.le_of_ble_eq_true rfl) S (Gr.refl h.ok) Q fun v S1 g t r => k2 v S1 g t r fun q' ds' e => by cases e; exact pt.grow g) (nd_part h off) k
/-- a row is laid on the line with an empty list of parts -/
theorem push_new (h : FS K S0 S σ a fs) (ok0 : Ok K none S0) (few : fs.length < sizeLine) {x : V} (h3 : σ[3]? = some (some x)) (r : Rp K S.F x d) (k : ∀ S1 q, FS K S0 S1 σ a (fs ++ [⟨d, some (q, [])⟩]) → Ex S.F S1.F → G.nx σ S1.H) : pushA K G σ S.H := by
  obtain ⟨us, h1, h2, _, _⟩ := h.line
  refine ⟨.ref a, h.slot, .inl ⟨rfl, us, .of h1⟩, x, h3, ?_⟩
  refine eo_lst (K := K) (p := none) (σ := σ) (S := S) ea_nil (Nat.zero_le _) S (Gr.refl h.ok) _ fun q ws S1 g t n hq fq rw_ => ?_
  cases rw_
  have h' := h.grow g t
  obtain ⟨vs, w1, w2, _, _⟩ := h'.line
  have aq : q ≠ a := fun z => by rw [z, h1] at n; cases n
  refine ⟨by rw [sizeLine_eq]; exact Nat.le_of_ble_eq_true rfl, fun p hp => ?_⟩
  have g2 := Gr.new (p := none) (o := .tup [x, .ref q]) h'.ok hp
  have h2' := h'.grow g2 (Nat.le_refl _)
  obtain ⟨vs2, w3, w4, _, _⟩ := h2'.line
  have same : vs2 = vs := by
    have z : upd S1.H p (.tup [x, .ref q]) a = some (.lst vs2) := w3
    rw [upd_ne (fun z => by rw [← z, w1] at hp; cases hp), w1] at z
    cases z
    rfl
  have len : vs2.length = fs.length := by rw [w4.length, List.length_map]
  have pq : Part K S0 ⟨upd S1.F p (.tup [x, .ref q]), upd S1.H p (.tup [x, .ref q]), S1.T⟩ q [] := Part.grow (S := S1) ⟨[], hq, .nil, fq, h.g.fresh n⟩ g2
  have off : q ∉ a :: fs.flatMap Fra.ad := fun m => by
    rcases List.mem_cons.mp m with z | z
    · exact aq z
    · obtain ⟨f, hf, hm⟩ := List.mem_flatMap.mp z
      obtain ⟨d', _ | ⟨q', ds'⟩⟩ := f
      · cases hm
      · cases List.mem_singleton.mp hm
        obtain ⟨_, z1, _⟩ := h.parts _ hf q ds' rfl
        rw [n] at z1
        cases z1
  refine ⟨a, vs2, .ref p, rfl, rfl, w3, by omega, ?_⟩
  have rt : Rp K (upd S1.F p (.tup [x, .ref q])) (.ref p) (.tup [d, .val (.ref q)]) := .tup (.of upd_same) (.cons ((r.mono g.ff).mono g2.ff) (.cons (.val _) .nil))
  exact k ⟨_, _, S1.T⟩ q (h2'.lay ok0 (by rw [List.map_append]; exact w4.snoc rt) (fun f hf q' ds' e => by
    rcases List.mem_append.mp hf with z | z
    · exact h2'.parts f z q' ds' e
    · rw [List.mem_singleton.mp z] at e
      cases e
      exact pq) (nd_part h2' off)) (g.ff.trans g2.ff)
/-- the line's last row is dropped -/
theorem r_drop {f : Fra} (h : FS K S0 S σ a (fs ++ [f])) (ok0 : Ok K none S0) (k : ∀ S1, FS K S0 S1 σ a fs → S1.F = S.F → G.nx σ S1.H) : tDrop (tBM0 K "list" rPop (tVar 2)) G σ S.H := by
  obtain ⟨us, h1, h2, _, _⟩ := h.line
  have nd2 : (a :: fs.flatMap Fra.ad).Nodup := by
    have := h.nd
    rw [List.flatMap_append] at this
    exact this.sublist (List.cons_sublist_cons.mpr (List.sublist_append_left _ _))
  have lens := h2.length
  rw [List.length_map, List.length_append, List.length_singleton] at lens
  have r1 := h2.dropLast
  rw [List.map_append, List.map_singleton, List.dropLast_concat] at r1
  have lt : us.length - 1 < us.length := by omega
  refine ⟨.ref a, h.slot, .inl ⟨rfl, us, .of h1⟩, a, us, us[us.length - 1], rfl, rfl, h1, List.getElem?_eq_getElem lt, ?_⟩
  exact k _ (h.lay ok0 r1 (fun f' hf q ds e => h.parts f' (List.mem_append_left _ hf) q ds e) nd2) rfl
/-- parts.append(done) -/
theorem r_add (h : FS K S0 S σ a fs) (ok0 : Ok K none S0) {v : V} (h1 : σ[1]? = some (some v)) (r : Rp K S.F v e) (h4 : σ[4]? = some (some (.ref q))) (pt : Part K S0 S q ds) (off : q ∉ a :: fs.flatMap Fra.ad) (few : ds.length < sizeLine)
    (k : ∀ S1, FS K S0 S1 σ a fs → Part K S0 S1 q (ds ++ [e]) → S1.F = S.F → G.nx σ S1.H) : tDrop (tBM K "list" rAppend (tVar 4) (tCons (tVar 1) tNil)) G σ S.H := by
  have pt' := pt
  obtain ⟨ws, w1, w2, w3, w4⟩ := pt'
  refine ⟨.ref q, h4, .inl ⟨rfl, ws, .of w1⟩, v, h1, q, ws, v, rfl, rfl, w1, by rw [w2.length]; exact few, ?_⟩
  exact k ⟨S.F, upd S.H q (.lst (ws ++ [v])), S.T⟩ (h.other ok0 pt off) ⟨_, upd_same, w2.snoc r, w3, w4⟩ rfl
theorem at3 (h : σ.length = 5) (x y : V) : ((σ.set 3 (some x)).set 4 (some y))[3]? = some (some x) ∧ ((σ.set 3 (some x)).set 4 (some y))[4]? = some (some y) := by
  refine ⟨?_, ?_⟩
  · rw [List.getElem?_set_ne (by decide), List.getElem?_set_self (by omega)]
  · rw [List.getElem?_set_self (by rw [List.length_set]; omega)]
theorem at1 (h : σ.length = 5) (v : V) : (σ.set 1 (some v))[1]? = some (some v) := List.getElem?_set_self (by omega)
theorem keep1 {v : V} (h : σ[1]? = some (some v)) (x y : V) : ((σ.set 3 (some x)).set 4 (some y))[1]? = some (some v) := by
  rw [List.getElem?_set_ne (by decide), List.getElem?_set_ne (by decide), h]
theorem keep3 {x : V} (h : σ[3]? = some (some x)) (v : V) : (σ.set 1 (some v))[3]? = some (some x) := by rw [List.getElem?_set_ne (by decide), h]
theorem et_row {x : V} (h3 : σ[3]? = some (some x)) (r : Rp K S.F x d) (f : fine d = true) : EvT K none (tNot (tB (tCall (spRow K) [] E0 (tCons (tVar 3) tNil)))) σ S (!isRowD d) :=
  et_not (et_B (ed_call (n := 1) (pre := fun ds => kn (h0 ds)) (f := fun ds => .bl (isRowD (h0 ds))) (ds := [d]) (ea_cons (ed_slot h3 r) ea_nil) rfl (fine_kn f)))
theorem len_row {x : V} {j : Nat} (h3 : σ[j]? = some (some x)) (r : Rp K S.F x d) (hd : rowD d = some es) (few : es.length ≤ 16777216) : EvD K none (tCB (rLenA K) (tCons (tVar j) tNil)) σ S (.int (es.length : Int)) := ed_lenR (ed_slot h3 r) hd few
theorem len_part (h4 : σ[4]? = some (some (.ref q))) (pt : Part K S0 S q ds) (few : ds.length ≤ 16777216) : EvD K none (tCB (rLenA K) (tCons (tVar 4) tNil)) σ S (.int (ds.length : Int)) :=
  ed_len (EvQ.hl (eq_part pt h4)) (rl_L (by rw [sizeLine_eq]; exact few))
/-- both ways of a turn -/
structure Big (K : PySem.W.Frag) [LT K] (S0 : Wd) (a : Addr) (G : Ends) (n : Nat) : Prop where
  go : ∀ d fs k σ S, 2 * sz d ≤ n → fine d = true → fs.length + sz d ≤ 1000000 → Kont K S0 a G fs (fixD d) k → FS K S0 S σ a (fs ++ [⟨d, none⟩]) → GoodF K G (turns d + k) σ S.H
  on : ∀ d pre e r fs q k σ H, 2 * szs r + 1 ≤ n → fine d = true → rowD d = some (pre ++ e :: r) → fs.length + sz d ≤ 1000000 → Kont K S0 a G fs (fixD d) k → BSt K S0 a (fs ++ [⟨d, some (q, pre.map fixD)⟩]) (fixD e) σ H → GoodF K G (turnsR r + k) σ H
theorem atI_at {α : Type} {xs : List α} {j : Nat} {x : α} (h : xs[j]? = some x) : atI xs (j : Int) = some x := by
  obtain ⟨hj, rfl⟩ := List.getElem?_eq_some_iff.mp h
  unfold atI ixN
  rw [if_pos (by omega), if_pos (by omega)]
  show xs[(j : Int).toNat]? = _
  rw [Int.toNat_natCast, List.getElem?_eq_getElem hj]
theorem snoc_ne {α : Type} {l : List α} {x : α} : l ++ [x] ≠ [] := by simp
theorem big (ok0 : Ok K none S0) : ∀ n, Big K S0 a G n
  | 0 => ⟨fun d fs k σ S h => by have := sz_pos d; omega, fun d pre e r fs q k σ H h => by omega⟩
  | n + 1 => by
    have B := big ok0 n
    have ln : ∀ {z : Nat}, z ≤ 1000000 → z < sizeLine := fun h => by rw [sizeLine_eq]; omega
    refine ⟨fun d fs k σ S hn fd hz kt h => ?_, fun d pre e r fs q k σ H hn fd hd hz kt hb => ?_⟩
    · refine one_turn h snoc_ne fun S1 g1 h1 => ?_
      refine s_seq (r_take h1 ok0 fun x y S2 h2 _ rx ry ps => ?_)
      have l2 := h1.len
      obtain ⟨h3, h4⟩ := at3 l2 x y
      dsimp only at rx ry
      dsimp only
      refine s_seq (r_if h2.ok (et_row h3 rx fd) (fun b S3 g3 t3 => ?_) (fun b S3 g3 t3 => ?_))
      · have nrow : rowD d = none := row_not (by simpa using b)
        have h3' := h2.grow g3 t3
        refine r_asg h3'.ok (ed_slot h3 (rx.mono g3.ff)) fun v S4 g4 t4 rv => ?_
        rw [fixD_leaf nrow] at kt
        refine end_turn ((h3'.grow g4 t4).set (by decide)) (at1 h3'.len v) rv kt ?_
        have : turns d = 1 := by cases d <;> first | rfl | cases nrow
        omega
      · obtain ⟨es, hd⟩ := row_of (show isRowD d = true by simpa using b)
        have szd := row_sz hd
        have lenE := szs_len es
        have h3' := h2.grow g3 t3
        cases ry
        refine r_if h3'.ok (et_test (ed_op (EvD.h (ed_slot h4 .non)) (EvD.h ed_non) (rd_isN rfl))) (fun _ S4 g4 t4 => ?_) (fun z => by cases z)
        have h4' := h3'.grow g4 t4
        have rx4 := (rx.mono g3.ff).mono g4.ff
        refine s_seq (push_new h4' ok0 (ln (by omega)) h3 rx4 fun S5 q h5 x5 => ?_)
        dsimp only
        refine s_seq (r_asg h5.ok ed_non fun v S6 g6 t6 _ => ?_)
        have h6 := (h5.grow g6 t6).set (v := v) (i := 1) (by decide)
        have s3 := keep3 h3 v
        have rx6 := (rx4.mono x5).mono g6.ff
        dsimp only
        cases es with
        | nil =>
          refine s_seq (r_if (b := false) h6.ok (et_test (ed_op (EvD.h (len_row s3 rx6 hd (Nat.zero_le _))) (EvD.h ed_int) rd_B0)) (fun z => by cases z) (fun _ S7 g7 t7 => ?_))
          refine s_next ?_
          refine s_seq (r_drop (h6.grow g7 t7) ok0 fun S8 h8 _ => ?_)
          dsimp only
          refine r_asg h8.ok (ed_tup ea_nil (Nat.zero_le _)) fun u S9 g9 t9 ru => ?_
          rw [fixD_row hd] at kt
          refine end_turn ((h8.grow g9 t9).set (by decide)) (at1 h8.len u) ru kt ?_
          rw [turns_row hd]
          simp only [turnsR]
          omega
        | cons e0 r =>
          refine s_seq (r_if (b := true) h6.ok (EvT.is (et_test (ed_op (EvD.h (len_row s3 rx6 hd (by omega))) (EvD.h ed_int) rd_B0)) (decide_eq_true (by rw [List.length_cons]; omega))) (fun _ S7 g7 t7 => ?_) (fun z => by cases z))
          have h7 := h6.grow g7 t7
          have sze : 1 + sz e0 + szs r = sz d := by rw [szd]; simp only [szs]; omega
          have fe := fine_mem (fine_row hd fd) e0 List.mem_cons_self
          refine s_seq (push_go h7 ok0 (by rw [List.length_append]; exact ln (by have := sz_pos e0; simp only [List.length_singleton]; omega)) (ed_at (ed_slot s3 (rx6.mono g7.ff)) hd ed_int at0) fun S8 h8 x8 => ?_)
          refine ⟨turns e0 + (turnsR r + k), ?_, B.go e0 _ (turnsR r + k) _ S8 (by omega) fe (by rw [List.length_append, List.length_singleton]; omega) ⟨fun z => absurd z snoc_ne, fun _ σ H bs => ?_⟩ h8⟩
          · rw [turns_row hd]
            simp only [turnsR]
            omega
          · exact B.on d [] e0 r fs q k σ H (by omega) fd hd hz kt bs
    · obtain ⟨S, v, rfl, h, hv, rv⟩ := hb
      refine one_turn h snoc_ne fun S1 g1 h1 => ?_
      refine s_seq (r_take h1 ok0 fun x y S2 h2 f2 rx ry ps => ?_)
      obtain ⟨h3, h4⟩ := at3 h1.len x y
      have hv2 := keep1 hv x y
      have rv2 : Rp K S2.F v (fixD e) := f2 ▸ rv.mono g1.ff
      obtain ⟨pt, off⟩ := ps q _ rfl
      dsimp only at rx ry
      dsimp only
      have szd := row_sz hd
      rw [szs_app] at szd
      simp only [szs] at szd
      have lenP := szs_len pre
      have lenR := szs_len r
      have one := sz_pos e
      refine s_seq (r_if (b := false) h2.ok (EvT.is (et_row h3 rx fd) (by rw [row_is hd]; rfl)) (fun z => by cases z) (fun _ S3 g3 t3 => ?_))
      have h3' := h2.grow g3 t3
      cases ry
      refine r_if (b := false) h3'.ok (et_test (ed_op (EvD.h (ed_slot h4 (.val (.ref q)))) (EvD.h ed_non) rd_isRef)) (fun z => by cases z) (fun _ S4 g4 t4 => ?_)
      have h4' := h3'.grow g4 t4
      have rx4 := (rx.mono g3.ff).mono g4.ff
      have pt4 := (pt.grow g3).grow g4
      refine s_seq (r_add h4' ok0 hv2 ((rv2.mono g3.ff).mono g4.ff) h4 pt4 off (by rw [List.length_map]; exact ln (by omega)) fun S5 h5 pt5 f5 => ?_)
      have rx5 : Rp K S5.F x d := f5 ▸ rx4
      have eqP : pre.map fixD ++ [fixD e] = (pre ++ [e]).map fixD := by rw [List.map_append, List.map_singleton]
      rw [eqP] at pt5
      have lenD : ((pre ++ [e]).map fixD).length = pre.length + 1 := by rw [List.length_map, List.length_append, List.length_singleton]
      dsimp only
      have cmp := et_test (ed_op (EvD.h (len_part h4 pt5 (by omega))) (EvD.h (len_row h3 rx5 hd (by rw [List.length_append, List.length_cons]; omega))) (rd_B0 (f := fun i j => decide (i < j))))
      cases r with
      | nil =>
        refine s_seq (r_if (b := false) h5.ok (EvT.is cmp (decide_eq_false (by rw [lenD, List.length_append, List.length_singleton]; omega))) (fun z => by cases z) (fun _ S6 g6 t6 => ?_))
        refine s_next ?_
        have h6 := h5.grow g6 t6
        refine r_asg h6.ok (ed_tuple (eq_part (pt5.grow g6) h4)) fun u S7 g7 t7 ru => ?_
        rw [fixD_row hd] at kt
        refine end_turn ((h6.grow g7 t7).set (by decide)) (at1 h6.len u) ru kt ?_
        simp only [turnsR]
        omega
      | cons e2 r =>
        refine s_seq (r_if (b := true) h5.ok (EvT.is cmp (decide_eq_true (by rw [lenD, List.length_append, List.length_cons, List.length_cons]; omega))) (fun _ S6 g6 t6 => ?_) (fun z => by cases z))
        have h6 := h5.grow g6 t6
        have rx6 := rx5.mono g6.ff
        simp only [szs] at szd hn
        have one2 := sz_pos e2
        refine s_seq (push_at h6 ok0 (ln (by omega)) h3 rx6 h4 (pt5.grow g6) off fun S7 h7 x7 => ?_)
        have hd2 : rowD d = some ((pre ++ [e]) ++ e2 :: r) := by rw [hd]; simp
        have fe := fine_mem (fine_row hd fd) e2 (by simp)
        have pt7 : Part K S0 S7 q ((pre ++ [e]).map fixD) := h7.parts ⟨d, some (q, (pre ++ [e]).map fixD)⟩ (by simp) q _ rfl
        have pick : atI ((pre ++ [e]) ++ e2 :: r) (((pre ++ [e]).map fixD).length : Int) = some e2 := by
          rw [List.length_map]
          exact atI_at (by simp)
        refine s_seq (push_go h7 ok0 (by rw [List.length_append, List.length_singleton]; exact ln (by omega)) (ed_at (ed_slot h3 (rx6.mono x7)) hd2 (len_part h4 pt7 (by omega)) pick) fun S8 h8 x8 => ?_)
        refine ⟨turns e2 + (turnsR r + k), by simp only [turnsR]; omega, B.go e2 _ (turnsR r + k) _ S8 (by omega) fe (by rw [List.length_append, List.length_singleton]; omega) ⟨fun z => absurd z snoc_ne, fun _ σ H bs => ?_⟩ h8⟩
        exact B.on d (pre ++ [e]) e2 r fs q k σ H (by omega) fd hd2 hz kt bs
theorem fixed_run {N : List Str} {vs : List V} {H : Hp} {Q : VK} {E : XK} (h : spFixed K vs H Q E) (hN : N.length = 5) : fixedT K { nx := fun _ H' => Q .non H', rt := Q } (L2.start N vs) H := by
  refine fnP1 h (by omega) fun S0 d σ G hp st k => ?_
  obtain ⟨fd, hz⟩ := (show fine d = true ∧ sz d ≤ 1000000 from hp)
  have ok0 := st.ok0
  have len5 : σ.length = 5 := st.len.trans hN
  refine s_seq ?_
  obtain ⟨v0, e0, r0⟩ := st.has (0, .dat d) (get_mem rfl)
  have ls : EvO K none (tLst (tCons (tTup (tCons (tVar 0) (tCons (tC .non) tNil))) tNil)) σ S0 [.tup [d, .non]] :=
    eo_lst (ea_cons (ed_tup (ea_cons (ed_slot e0 r0) (ea_cons ed_non ea_nil)) (by rw [sizeLine_eq]; exact Nat.le_of_ble_eq_true rfl)) ea_nil) (by rw [sizeLine_eq]; exact Nat.le_of_ble_eq_true rfl)
  refine ls S0 (Gr.refl ok0) (fun x H2 => ∃ v w, [V.non, x] = [v, w] ∧ tSeq (tWhile (lineT K) (turnT K)) (tRet (tVar 1)) G ((σ.set 1 (some v)).set 2 (some w)) H2) fun a ws S1 g t n hl hF r => ⟨.non, .ref a, rfl, ?_⟩
  refine s_seq ?_
  have fs : FS K S0 S1 ((σ.set 1 (some .non)).set 2 (some (.ref a))) a ([] ++ [⟨d, none⟩]) :=
    ⟨g, t, by rw [List.length_set, List.length_set]; exact len5, List.getElem?_set_self (by rw [List.length_set]; omega), ⟨ws, hl, r, hF, n⟩, fun f hf q ds e => (by rw [List.mem_singleton.mp hf] at e; cases e), List.nodup_cons.mpr ⟨List.not_mem_nil, .nil⟩⟩
  refine Good.loop _ _ _ ((big ok0 _).go d [] 0 _ S1 (Nat.le_refl _) fd (by rw [List.length_nil]; omega) ⟨fun _ v S g t r => k v S g (by omega) r, fun z => absurd rfl z⟩ fs)
end
end DL
/-! ## two fors in a comprehension; defaults; raise with a variable; calls that let raise; while with draws -/
namespace DL
open PySem L2
open Evl (Ex)
section
variable {K : PySem.W.Frag} [LT K] {p : Option Addr} {S S0 S1 S2 S3 : Wd} {B : Hp} {σ σ' : L2.St} {te ta tb tc to ti : TE} {d d1 d2 d3 e : D} {ds es : List D} {v : V} {m M n k : Nat} {P P1 P2 : D → Prop} {l l' : En} {i j : Nat} {t : Ty} {G : Ends}
theorem eo_lc2 {wi wi1 : TI} {vs vs1 : List Nat} {gl : DL.D → List DL.D} {f : DL.D → DL.D → DL.D} (h : Sta K p S0 B m M n σ S l) (hq : EvS K p wi σ S ds) (hi : i < m) (hj : j < m) (hv : vs.contains i = true) (hv1 : vs1.contains j = true)
    (h1 : ∀ d ∈ ds, ∀ B' n' σ' S', Sta K p S0 B' m M n' σ' S' (put i (.dat d) (l.filter fun q => !vs.contains q.1)) → EvS K p wi1 σ' S' (gl d))
    (he : ∀ d ∈ ds, ∀ e ∈ gl d, ∀ B' n' σ' S', Sta K p S0 B' m M n' σ' S' (put j (.dat e) ((put i (.dat d) (l.filter fun q => !vs.contains q.1)).filter fun q => !vs1.contains q.1)) → EvD K p te σ' S' (f d e)) (hz : (ds.flatMap fun d => (gl d).map (f d)).length < sizeLine) :
    EvO K p (tLc2 wi (gName i) tYes wi1 (gName j) tYes te vs vs1) σ S (ds.flatMap fun d => (gl d).map (f d)) := by
  intro S1 g1 Q q
  have hm : i ∈ vs := by simpa using hv
  have hm1 : j ∈ vs1 := by simpa using hv1
  let I (c : Nat) (a : Nat) (S' : Wd) (A : Addr) : Prop := ∃ acc, S'.H A = some (.lst acc) ∧ S'.F A = none ∧ Rps K S'.F acc ((ds.take c).flatMap (fun d => (gl d).map (f d)) ++ (match ds[c]? with | some d => ((gl d).map (f d)).take a | none => []))
  refine hq S1 g1 _ fun J S2 g2 t2 src A hA => ?_
  have hF2 := g2.ok.freshF hA
  have hAp := ok_ne g2.ok hA
  refine ⟨fun c k H' => k = ds.length - c ∧ c ≤ ds.length ∧ ∃ S', S'.H = H' ∧ Gr K p S2 S' ∧ S'.T ≤ S2.T ∧ I c 0 S' A,
    ⟨ds.length, by simp, Nat.zero_le _, ⟨S2.F, upd S2.H A (.lst []), S2.T⟩, rfl, Gr.newO g2.ok hA, Nat.le_refl _, [], upd_same, hF2, by rw [List.take_zero]; cases ds[0]? <;> exact .nil⟩, ?_⟩
  rintro c k H' ⟨rfl, hc, S', rfl, g', t', hI⟩
  obtain ⟨s1, s2⟩ := src S' g'.ff g'.ok c
  by_cases hlt : c < ds.length
  · obtain ⟨go, yl⟩ := s1 hlt
    refine .inr ⟨go, fun H' => ∃ S', S'.H = H' ∧ Gr K p S2 S' ∧ S'.T ≤ S2.T ∧ I (c + 1) 0 S' A, fun H' q => ⟨ds.length - (c + 1), by omega, rfl, hlt, q⟩, fun x H' y => ?_⟩
    obtain ⟨eH, d, hd, rx⟩ := yl x H' y
    subst eH
    have dm := List.mem_of_getElem? hd
    have nxt : (ds.take (c + 1)).flatMap (fun d => (gl d).map (f d)) = (ds.take c).flatMap (fun d => (gl d).map (f d)) ++ (gl d).map (f d) := by rw [List.take_succ, hd, List.flatMap_append]; simp
    have st := (h.any ((g1.trans g2).trans g')).wiped vs
    have st2 := (st.set (t := .dat d) hi rx (fun z => by cases z)).base (fun _ _ q => q)
    refine ⟨by rw [wipe_set hm, wipe_wipe fun _ z => z], ?_⟩
    dsimp only [tYes]
    rw [if_pos rfl]
    refine h1 d dm _ _ _ _ st2 S' (Gr.refl g'.ok) _ fun J1 S3 g3 t3 src1 => ?_
    have up : ∀ {S4 : Wd}, Gr K p S' S4 → S4.T ≤ S'.T → I c 0 S' A → I c 0 S4 A := fun {S4} g t ⟨acc, a1, a2, a3⟩ => ⟨acc, g.hh _ _ a1 hAp, (g.old A (by rw [a1]; simp)).trans a2, a3.mono g.ff⟩
    refine ⟨fun a k H' => k = (gl d).length - a ∧ a ≤ (gl d).length ∧ ∃ S4, S4.H = H' ∧ Gr K p S2 S4 ∧ S4.T ≤ S2.T ∧ Ex S3.F S4.F ∧ I c a S4 A, ⟨(gl d).length, by simp, Nat.zero_le _, S3, rfl, g'.trans g3, by omega, fun _ _ q => q, up g3 t3 hI⟩, ?_⟩
    rintro a k H' ⟨rfl, ha, S4, rfl, g4, t4, x4, acc, a1, a2, a3⟩
    rw [hd] at a3
    dsimp only at a3
    obtain ⟨u1, u2⟩ := src1 S4 x4 g4.ok a
    by_cases hla : a < (gl d).length
    · obtain ⟨go1, yl1⟩ := u1 hla
      refine .inr ⟨go1, fun H' => ∃ S4, S4.H = H' ∧ Gr K p S2 S4 ∧ S4.T ≤ S2.T ∧ Ex S3.F S4.F ∧ I c (a + 1) S4 A, fun H' q => ⟨(gl d).length - (a + 1), by omega, rfl, hla, q⟩, fun x1 H' y1 => ?_⟩
      obtain ⟨eH, e, hde, rx1⟩ := yl1 x1 H' y1
      subst eH
      have em := List.mem_of_getElem? hde
      have stO := ((((h.any ((g1.trans g2).trans g4)).wiped vs).set (t := .dat d) hi (rx.mono (g3.ff.trans x4)) (fun z => by cases z)).base (B' := S4.F) (fun _ _ q => q)).wiped vs1
      have stI := stO.set (t := .dat e) hj rx1 (fun z => by cases z)
      refine ⟨by rw [wipe_set hm1, wipe_wipe fun _ z => z], ?_⟩
      dsimp only [tYes]
      rw [if_pos rfl]
      refine he d dm e em _ _ _ _ stI S4 (Gr.refl g4.ok) _ fun y S5 g5 t5 ry => ?_
      have hA5 := g5.hh _ _ a1 hAp
      have hF5 : S5.F A = none := (g5.old A (by rw [a1]; simp)).trans a2
      have small : acc.length < sizeLine := by
        refine Nat.lt_of_le_of_lt ?_ hz
        rw [a3.length, List.length_append]
        have split : ds.flatMap (fun d => (gl d).map (f d)) = (ds.take (c + 1)).flatMap (fun d => (gl d).map (f d)) ++ (ds.drop (c + 1)).flatMap (fun d => (gl d).map (f d)) := by rw [← List.flatMap_append, List.take_append_drop]
        rw [split, nxt, List.length_append, List.length_append, List.length_take]
        omega
      refine ⟨acc, hA5, small, ⟨S5.F, upd S5.H A (.lst (acc ++ [y])), S5.T⟩, rfl, Gr.chg g2.ok (g4.trans g5) hA hF5 hA5 (fun ps z => by cases z) code_ne_lst, by show S5.T ≤ _; omega, x4.trans g5.ff, acc ++ [y], upd_same, hF5, ?_⟩
      rw [hd]
      dsimp only
      rw [List.take_succ, List.getElem?_map, hde, ← List.append_assoc]
      exact (a3.mono g5.ff).snoc ry
    · have ea : a = (gl d).length := by omega
      subst ea
      refine .inl ⟨u2 rfl, S4, rfl, g4, t4, acc, a1, a2, ?_⟩
      have tk : ((gl d).map (f d)).take (gl d).length = (gl d).map (f d) := List.take_of_length_le (by rw [List.length_map]; exact Nat.le_refl _)
      rw [tk] at a3
      rw [nxt]
      cases ds[c + 1]? <;> (simp only [List.take_zero, List.append_nil]; exact a3)
  · have ec : c = ds.length := by omega
    subst ec
    obtain ⟨acc, a1, a2, a3⟩ := hI
    rw [List.take_length, List.getElem?_eq_none (Nat.le_refl _), List.append_nil] at a3
    exact .inl ⟨s2 rfl, q A acc S' (g2.trans g') (by omega) (g2.fresh hA) a1 a2 a3⟩
/-! ### raise C(x), x a variable that holds a text -/
theorem s_raiseV {D C : Addr} {E : XK} {x : Str} (h : Sta K p S0 B m M n σ S l) (hg : get l i = some (.dat (.str x))) (SC : SCls K D C) (hno : PySem.W.findIn K (.ref C) "part" = some none) (k : ∀ dx S', Gr K p S0 S' → S'.T ≤ S0.T + n → S'.H dx = some (.xd [("part", .str x)]) → E (.ref C) (some dx) S'.H) :
    tMkO C (spPart K D "part") [] (tCons (tVar i) tNil) σ S.H (fun cls d H' => E cls d H') := by
  obtain ⟨v, e, r⟩ := h.has _ (get_mem hg)
  cases (show Rp K S.F v (.str x) from r)
  exact ⟨.str x, e, s_raise h SC hno k⟩
/-! ### calls of defs that may raise -/
section
variable {C : Addr} {fs : List (Str × V)} {pre : List D → Prop} {f : List D → Option D} {dvs : List V} {dds : List D}
theorem ed_callED {tt : TA} {E : XK} (h : EvA K p tt σ S ds) (hd : ∀ F, Rps K F dvs dds) (hn : (ds ++ dds).length = n) (hp : pre (ds ++ dds)) (hf : f (ds ++ dds) = some e) : EvD K p (tCall (spE K n pre f C fs) dvs E tt) σ S e := fun S1 g Q q =>
  h S1 g _ fun vs S2 g2 t2 rv => by
    refine ⟨S2.F, ds ++ dds, ⟨g2.ok.sub, fun a e => (by cases e), g2.ok.nt, g2.ok.tb⟩, rv.append (hd _), hn, hp, fun d' hd' v F' H' g' r => ?_, fun z => by rw [hf] at z; cases z⟩
    rw [hf] at hd'
    cases hd'
    have g3 : Gr K none S2 ⟨F', H', S2.T⟩ := ⟨g'.ff, fun b o q np n => g'.hh b o q np n, g'.al, g'.old, ⟨g'.ok.sub, fun a e => (by cases e), g'.ok.nt, g'.ok.tb⟩⟩
    exact q v ⟨F', H', S2.T⟩ (g2.trans (g3.up g2.ok rfl)) t2 r
theorem ev_raiseD {tt : TA} {E : XK} (h : EvA K none tt σ S ds) (hok : Ok K none S) (hd : ∀ F, Rps K F dvs dds) (hn : (ds ++ dds).length = n) (hp : pre (ds ++ dds)) (hf : f (ds ++ dds) = none) {Q : VK} (k : ∀ dx S', Gr K none S S' → S'.T ≤ S.T → S'.H dx = some (.xd fs) → E (.ref C) (some dx) S'.H) :
    tCall (spE K n pre f C fs) dvs E tt σ S.H Q := h S (Gr.refl hok) _ fun vs S2 g2 t2 rv => by
  refine ⟨S2.F, ds ++ dds, ⟨g2.ok.sub, fun a e => (by cases e), g2.ok.nt, g2.ok.tb⟩, rv.append (hd _), hn, hp, (fun d' hd' => by rw [hf] at hd'; cases hd'), fun _ dx F' H' g' hx => ?_⟩
  have g3 : Gr K none S2 ⟨F', H', S2.T⟩ := ⟨g'.ff, fun b o q np n => g'.hh b o q np n, g'.al, g'.old, ⟨g'.ok.sub, fun a e => (by cases e), g'.ok.nt, g'.ok.tb⟩⟩
  exact k dx ⟨F', H', S2.T⟩ (g2.trans g3) t2 hx
end
/-! ### a while whose turns draw: at most w times each, c turns at most -/
theorem s_whileN {α : Type} {c : TT} {tb : TS} {w : Nat} (I : α → Prop) (e : α → En) (μ : α → Nat) (b : α → Bool) (a0 : α) (h : Sta K p S0 B m M n σ S l) (h0 : I a0) (hs : sub (e a0) l) (hM : n + μ a0 * w ≤ M)
    (ht : ∀ a n' σ S, I a → Sta K p S0 B m M n' σ S (e a) → EvT K p c σ S (b a))
    (hb : ∀ a n' σ S, I a → b a = true → n' + μ a * w ≤ M → Sta K p S0 B m M n' σ S (e a) → ∀ D' : Ends, D'.rt = G.rt → (∀ a' σ' S' l', I a' → μ a' < μ a → Sta K p S0 B m M (n' + w) σ' S' l' → sub (e a') l' → D'.nx σ' S'.H) → (∀ σ' H', D'.bk σ' H' = G.nx σ' H') → tb D' σ S.H)
    (hd : ∀ a n' σ S, I a → b a = false → n' ≤ n + μ a0 * w → Sta K p S0 B m M n' σ S (e a) → G.nx σ S.H) : tWhile c tb G σ S.H := by
  refine ⟨fun k σ' H' => ∃ a S' n', I a ∧ μ a = k ∧ S'.H = H' ∧ n' + μ a * w ≤ n + μ a0 * w ∧ Sta K p S0 B m M n' σ' S' (e a), ⟨μ a0, a0, S, n, h0, rfl, rfl, Nat.le_refl _, h.weak hs⟩, ?_⟩
  rintro k σ' H' ⟨a, S', n', ia, rfl, rfl, hn, hst⟩
  refine ht a n' σ' S' ia hst S' (Gr.refl hst.ok) _ fun S2 g2 t2 => ?_
  have h2 := hst.grow0 g2 t2
  cases hba : b a with
  | true =>
    rw [if_pos rfl]
    have kk : ∀ a' σ' S' l', I a' → μ a' < μ a → Sta K p S0 B m M (n' + w) σ' S' l' → sub (e a') l' → ∃ m', m' < μ a ∧ ∃ a S1 n1, I a ∧ μ a = m' ∧ S1.H = S'.H ∧ n1 + μ a * w ≤ n + μ a0 * w ∧ Sta K p S0 B m M n1 σ' S1 (e a) :=
      fun a' σ' S' l' i' lt st' sb => ⟨μ a', lt, a', S', n' + w, i', rfl, rfl, by
        have : μ a' * w + w ≤ μ a * w := by
          rw [← Nat.succ_mul]
          exact Nat.mul_le_mul_right w lt
        omega, st'.weak sb⟩
    refine ⟨fun σ' H' => ∃ m', m' < μ a ∧ ∃ a S1 n1, I a ∧ μ a = m' ∧ S1.H = H' ∧ n1 + μ a * w ≤ n + μ a0 * w ∧ Sta K p S0 B m M n1 σ' S1 (e a), fun σ' H' q => q, ?_⟩
    exact hb a n' σ' S2 ia hba (by omega) h2 _ rfl kk fun _ _ => rfl
  | false =>
    rw [if_neg Bool.false_ne_true]
    exact hd a n' σ' S2 ia hba (by omega) h2
end
end DL
/-! ## texts in order; defs with texts as defaults; what is heard of a call by keywords -/
namespace DL
open PySem L2
open Evl (Ex)
/-! ### an order -/
structure Lin {α : Type} (lt : α → α → Bool) : Prop where
  ir : ∀ a, lt a a = false
  tr : ∀ a b c, lt a b = true → lt b c = true → lt a c = true
  tot : ∀ a b, lt a b = false → lt b a = false → a = b
section
variable {α : Type} [DecidableEq α] {lt : α → α → Bool}
def insG (lt : α → α → Bool) (x : α) : List α → List α
  | [] => [x]
  | y :: l => if lt x y = true then x :: y :: l else if x = y then y :: l else y :: insG lt x l
def srtG (lt : α → α → Bool) (l : List α) : List α := l.foldr (insG lt) []
abbrev Asc (lt : α → α → Bool) (l : List α) : Prop := l.Pairwise fun a b => lt a b = true
theorem insG_mem (x k : α) : ∀ l, k ∈ insG lt x l ↔ k = x ∨ k ∈ l
  | [] => by simp [insG]
  | y :: l => by
    unfold insG
    by_cases c : lt x y = true
    · rw [if_pos c, List.mem_cons]
    · rw [if_neg c]
      by_cases e : x = y
      · rw [if_pos e, e]
        exact ⟨.inr, fun h => h.elim (fun z => z ▸ List.mem_cons_self) id⟩
      · rw [if_neg e, List.mem_cons, insG_mem x k l, List.mem_cons]
        exact ⟨fun h => h.elim (fun z => .inr (.inl z)) (fun z => z.imp id .inr), fun h => h.elim (fun z => .inr (.inl z)) (fun z => z.imp id .inr)⟩
theorem insG_asc (L : Lin lt) (x : α) : ∀ l : List α, Asc lt l → Asc lt (insG lt x l)
  | [], _ => List.pairwise_singleton _ _
  | y :: l, h => by
    obtain ⟨h1, h2⟩ := List.pairwise_cons.mp h
    unfold insG
    by_cases c : lt x y = true
    · rw [if_pos c]
      exact List.pairwise_cons.mpr ⟨fun z hz => (List.mem_cons.mp hz).elim (fun e => e ▸ c) fun e => L.tr _ _ _ c (h1 z e), h⟩
    · rw [if_neg c]
      by_cases e : x = y
      · rwa [if_pos e]
      · rw [if_neg e]
        refine List.pairwise_cons.mpr ⟨fun z hz => ?_, insG_asc L x l h2⟩
        rcases (insG_mem x z l).mp hz with rfl | z1
        · cases q : lt y z with
          | true => rfl
          | false => exact absurd (L.tot z y (by simpa using c) q) e
        · exact h1 z z1
theorem srtG_asc (L : Lin lt) : ∀ l : List α, Asc lt (srtG lt l)
  | [] => .nil
  | x :: l => insG_asc L x _ (srtG_asc L l)
theorem srtG_mem (k : α) : ∀ l : List α, k ∈ srtG lt l ↔ k ∈ l
  | [] => by simp [srtG]
  | x :: l => by
    show k ∈ insG lt x (srtG lt l) ↔ _
    rw [insG_mem, srtG_mem k l, List.mem_cons]
theorem ascG_ext (L : Lin lt) : ∀ {xs ys : List α}, Asc lt xs → Asc lt ys → (∀ k, k ∈ xs ↔ k ∈ ys) → xs = ys
  | [], [], _, _, _ => rfl
  | [], y :: ys, _, _, h => absurd ((h y).mpr List.mem_cons_self) List.not_mem_nil
  | x :: xs, [], _, _, h => absurd ((h x).mp List.mem_cons_self) List.not_mem_nil
  | x :: xs, y :: ys, p, q, h => by
    obtain ⟨p1, p2⟩ := List.pairwise_cons.mp p
    obtain ⟨q1, q2⟩ := List.pairwise_cons.mp q
    have no : ∀ {a b : α}, lt a b = true → lt b a = true → False := fun u v => by
      have := L.tr _ _ _ u v
      rw [L.ir] at this
      cases this
    have e : x = y := by
      rcases List.mem_cons.mp ((h x).mp List.mem_cons_self) with a | a
      · exact a
      · rcases List.mem_cons.mp ((h y).mpr List.mem_cons_self) with b | b
        · exact b.symm
        · exact (no (q1 x a) (p1 y b)).elim
    subst e
    have self : ∀ {k}, lt x k = true → k ≠ x := fun u z => by rw [z, L.ir] at u; cases u
    rw [ascG_ext L p2 q2 fun k => ⟨fun hk => ((List.mem_cons.mp ((h k).mp (List.mem_cons_of_mem _ hk))).resolve_left (self (p1 k hk))), fun hk => ((List.mem_cons.mp ((h k).mpr (List.mem_cons_of_mem _ hk))).resolve_left (self (q1 k hk)))⟩]
end
/-! ### texts -/
def ltS (a b : Str) : Bool := PySem.Spec.ltCps a.cps.toList b.cps.toList
theorem lin_cps : Lin PySem.Spec.ltCps where
  ir := fun a => by induction a with
    | nil => rfl
    | cons x l ih => simp [PySem.Spec.ltCps, ih]
  tr := fun a => by
    induction a with
    | nil =>
      intro b c h1 h2
      cases b with
      | nil => simp [PySem.Spec.ltCps] at h1
      | cons y m =>
        cases c with
        | nil => simp [PySem.Spec.ltCps] at h2
        | cons z n => rfl
    | cons x l ih =>
      intro b c h1 h2
      cases b with
      | nil => cases h1
      | cons y m =>
        cases c with
        | nil => cases h2
        | cons z n =>
          simp only [PySem.Spec.ltCps, Bool.or_eq_true, decide_eq_true_eq, Bool.and_eq_true, beq_iff_eq] at h1 h2 ⊢
          rcases h1 with h1 | ⟨e1, h1⟩ <;> rcases h2 with h2 | ⟨e2, h2⟩
          · exact .inl (Nat.lt_trans h1 h2)
          · exact .inl (e2 ▸ h1)
          · exact .inl (e1 ▸ h2)
          · exact .inr ⟨e1.trans e2, ih m n h1 h2⟩
  tot := fun a => by
    induction a with
    | nil => intro b h1 h2; cases b <;> first | rfl | cases h1
    | cons x l ih =>
      intro b h1 h2
      cases b with
      | nil => cases h2
      | cons y m =>
        simp only [PySem.Spec.ltCps, Bool.or_eq_false_iff, decide_eq_false_iff_not, Bool.and_eq_false_iff, beq_eq_false_iff_ne] at h1 h2
        have e : x = y := by omega
        subst e
        rw [ih m (h1.2.resolve_left fun z => z rfl) (h2.2.resolve_left fun z => z rfl)]
theorem linS : Lin ltS where
  ir := fun a => lin_cps.ir _
  tr := fun a b c => lin_cps.tr _ _ _
  tot := fun a b h1 h2 => by
    have := lin_cps.tot _ _ h1 h2
    cases a; cases b
    simpa using this
def srtS (l : List Str) : List Str := srtG ltS l
theorem asc_of_rising : ∀ (l : List Str) (p : Str), (p :: l).Nodup → PyProof.Rows.risingS p l = true → Asc ltS (p :: l)
  | [], p, _, _ => List.pairwise_singleton _ _
  | x :: l, p, nd, h => by
    obtain ⟨n1, n2⟩ := List.nodup_cons.mp nd
    simp only [PyProof.Rows.risingS, Bool.and_eq_true, Bool.not_eq_true'] at h
    have ih := asc_of_rising l x n2 h.2
    have px : ltS p x = true := by
      cases q : ltS p x with
      | true => rfl
      | false => exact absurd (linS.tot p x q h.1) fun z => n1 (z ▸ List.mem_cons_self)
    refine List.pairwise_cons.mpr ⟨fun z hz => ?_, ih⟩
    rcases List.mem_cons.mp hz with rfl | hz
    · exact px
    · exact linS.tr _ _ _ px ((List.pairwise_cons.mp ih).1 z hz)
/-- what sorted makes of texts that are apart -/
theorem srtS_of {ys xs : List Str} (nd : ys.Nodup) (h : PyProof.Rows.sortedS ys = true) (m : ∀ k, k ∈ ys ↔ k ∈ xs) : ys = srtS xs := by
  refine ascG_ext linS ?_ (srtG_asc linS xs) fun k => (m k).trans (srtG_mem k xs).symm
  cases ys with
  | nil => exact .nil
  | cons y l => exact asc_of_rising l y nd h
theorem srtS_congr {xs ys : List Str} (m : ∀ k, k ∈ xs ↔ k ∈ ys) : srtS xs = srtS ys := ascG_ext linS (srtG_asc linS _) (srtG_asc linS _) fun k => (srtG_mem k xs).trans ((m k).trans (srtG_mem k ys).symm)
theorem srtS_mem (k : Str) (l : List Str) : k ∈ srtS l ↔ k ∈ l := srtG_mem k l
def rSortDS : List V → Hp → VK → Prop := fun xs H Q => ∃ (a : Addr) (kvs : List (Key × V)) (ks : List Str), xs = [.ref a] ∧ Rd H a (.dK kvs) ∧ kvs.map (·.1) = ks.map Sum.inr ∧ ks.length < 64 ∧ ∀ ys p, ys.Perm ks → PyProof.Rows.sortedS ys = true → H p = none → Q (.ref p) (upd H p (.lst (ys.map V.str)))
theorem cr_sortDS {X : Cx} (hc : X.calm = true) : CallR X (.builtin "sorted") rSortDS := call_sortedD hc
section
variable {K : PySem.W.Frag} [LT K] {p : Option Addr} {S S0 S1 S2 S3 : Wd} {B : Hp} {σ σ' : L2.St} {te ta tb tc to : TE} {d d1 d2 d3 e : D} {ds es zs : List D} {v : V} {m M n k : Nat} {P P1 P2 : D → Prop} {l l' : En} {i j : Nat} {t : Ty} {G : Ends}
theorem eo_sortSetS {P : Program} {w : World} {xs : List Str} (h : EvQ K p ta σ S true (xs.map D.str)) (hz : xs.length ≤ 4000) (h64 : (uniq xs).length < 64) : EvO K p (tSortSetS P w K ta) σ S ((srtS xs).map D.str) := fun S1 g Q q =>
  ev_set (fun r => r.strs_inv) h hz S1 g Q fun a S2 g2 t2 ha _ _ => ⟨a, _, rfl, ha, nodup_uniq xs, h64, fun ys b hp hs hb => by
    cases srtS_of (hp.nodup_iff.mpr (nodup_uniq xs)) hs fun j => (hp.mem_iff).trans mem_uniq
    exact q b _ ⟨S2.F, upd S2.H b (.lst ((srtS xs).map V.str)), S2.T⟩ (g2.trans (Gr.newO g2.ok hb)) t2 (g2.fresh hb) upd_same (g2.ok.freshF hb) (Rps.strs _)⟩
theorem eo_sortDS {kds : List (Key × D)} {xs : List Str} (h : EvD K p ta σ S (.dic kds)) (hk : kds.map (·.1) = xs.map Sum.inr) (nd : xs.Nodup) (h64 : xs.length < 64) : EvO K p (tCB rSortDS (tCons ta tNil)) σ S ((srtS xs).map D.str) := fun S1 g Q q =>
  h S1 g _ fun v S2 g2 t2 r => by
    cases r with
    | @dic a kvs _ hF hks rs =>
    refine ⟨a, kvs, xs, rfl, .of (g2.ok.sub _ _ hF), hks.trans hk, h64, fun ys b hp hs hb => ?_⟩
    cases srtS_of (hp.nodup_iff.mpr nd) hs fun j => hp.mem_iff
    exact q b _ ⟨S2.F, upd S2.H b (.lst ((srtS xs).map V.str)), S2.T⟩ (g2.trans (Gr.newO g2.ok hb)) t2 (g2.fresh hb) upd_same (g2.ok.freshF hb) (Rps.strs _)
/-- what is heard of a call by keywords of a def that may raise -/
theorem ed_heardEK {HC : Addr → Str → Prop} {n : Nat} {pre : List D → Prop} {f : List D → Option D} {C : Addr} {x word : Str} {tk : TA} {gV : List V → List V → List V} (h : EvA K p tk σ S zs) (hg : ∀ F vs, Rps K F vs zs → Rps K F (gV [] vs) ds) (hn : ds.length = n) (hp : pre ds) (hw : f ds = none → HC C word) :
    EvN K p (Lm.tLamT (LT.tabs K) (TTh K HC) fun E => tCallK (spE K n pre f C [("part", .str x)]) gV E tNil tk) σ S 0 (fun d => d = heardD (f ds) word x) := fun S1 g hb Q q' => by
  have q : ∀ v S2, Gr K p S1 S2 → S2.T ≤ S1.T → Rp K S2.F v (heardD (f ds) word x) → Q v S2.H := fun v S2 g2 t2 r => q' v _ S2 g2 t2 r rfl
  refine ⟨g.ok.tb.tabs, fun H1 ext tb no => ?_⟩
  have g1 := lam_gr g.ok ext tb fun a ps e => (no a ps e).elim id fun ⟨old, h⟩ => g.ok.tb.only a old h
  refine ⟨p, ⟨S1.F, H1, S1.T⟩, rfl, g1.ok, hb, fun S2 g2 t2 Q' E' hQ hE => h S2 (g.trans (g1.trans g2)) _ fun vs S3 g3 t3 rs => ?_⟩
  have t23 : S3.T ≤ S1.T := by have : S2.T ≤ S1.T := t2; omega
  have lift : ∀ {F' H' : Hp}, Gr K none ⟨S3.F, S3.H, 0⟩ ⟨F', H', 0⟩ → Gr K p S3 ⟨F', H', S3.T⟩ := fun {F' H'} g' =>
    Gr.up (S' := ⟨F', H', S3.T⟩) ⟨g'.ff, fun b o q np n => g'.hh b o q np n, g'.al, g'.old, ⟨g'.ok.sub, fun a e => (by cases e), g'.ok.nt, g'.ok.tb⟩⟩ g3.ok rfl
  refine ⟨S3.F, ds, ⟨g3.ok.sub, fun a e => (by cases e), g3.ok.nt, g3.ok.tb⟩, hg _ _ rs, hn, hp, fun d hd v F' H' g' rv => ?_, fun hnone dx F' H' g' hx => ?_⟩
  · refine hQ _ _ ⟨⟨F', H', S3.T⟩, d, rfl, g3.trans (lift g'), t3, rv, fun v' S4 g4 t4 rv' => q v' S4 (g1.trans (g2.trans (g3.trans ((lift g').trans g4)))) (by have : S4.T ≤ S3.T := t4; omega) ?_⟩
    rw [hd]
    exact rv'
  · refine hE _ _ _ ⟨⟨F', H', S3.T⟩, C, dx, x, word, rfl, g3.trans (lift g'), t3, rfl, rfl, hx, hw hnone, fun v' S4 g4 t4 rv' => q v' S4 (g1.trans (g2.trans (g3.trans ((lift g').trans g4)))) (by have : S4.T ≤ S3.T := t4; omega) ?_⟩
    rw [hnone]
    exact rv'
end
/-! ### a def whose last parameters have texts as defaults -/
section
open PySem PySem.Spec PyProof.Rows
variable {K : PySem.W.Frag} {x qual : Str} {st : Stmt} {f T : Addr} {oc : Value} {od an : Option Addr} {osl : Array (Option Value)} {kV doc pm cdv ct : Value} {ts : List Str}
abbrev FunT (K : PySem.W.Frag) (x qual : Str) (st : Stmt) (ts : List Str) (f : Addr) (fd : FuncData) : Prop := FunD K x qual (defArgs st) (defBody st) (defScope st) (ts.map V.str) [] f fd
theorem funT_mk (l : K.lookup f = some ⟨oc, od, .func (PySem.W.fnOf x qual (defArgs st) (defBody st) (defScope st) (.ref T) kV doc pm an cdv ct), osl⟩) (c : PySem.W.codeIn K cdv qual = true) (k : PySem.W.keepIn K (.ref f) = true) (t : KTup K T ts) (ne : ts ≠ []) :
    FunT K x qual st ts f (PySem.W.fnOf x qual (defArgs st) (defBody st) (defScope st) (.ref T) kV doc pm an cdv ct) := by
  obtain ⟨o, its, n, t1, _, t3, _, t5⟩ := t
  exact ⟨⟨oc, od, .ref T, kV, doc, pm, an, cdv, ct, osl, rfl, l, c, .inr ⟨fun z => ne (List.map_eq_nil_iff.mp z), T, o, its.toList, n, rfl, t1, by rw [Array.toArray_toList]; exact t3, t5⟩, .inl rfl⟩, k⟩
end
/-- raise C(x), x a name -/
def tRaiseV (K : PySem.W.Frag) (D C : Addr) (te : TE) (E : XK) : TS := fun _ σ H => tMkO C (spPart K D "part") [] (tCons te tNil) σ H fun cls d H' => E cls d H'
theorem ps_raiseV {X : Cx} {E : XK} {D fI C : Addr} {fd : FuncData} {n y : Str} {k : Nat} {te : TE} {p1 p2 p3 p4 : Pos} (hc : X.calm = true) (I : PartI X.prog X.K X.mg D fI fd) (R : RaiseI X.K D fI C) (hr : Room (k + 2) X.A) (tk : Takes X (fun cls d _ H => E cls d H)) (hg : Gl X n) (hm : X.mg n = some (.ref C)) (he : PE X (.Name y p2) te)
    (hdb : (n == ("__debug__" : Str)) = false := by decide) (hs : starEach [.Name y p2] X.env = (false, eval (.Name y p2) X.env) :: starEach [] X.env := by rfl) (hpl : (backTo p3 (starEach [] X.env)).any (·.1) = false := by rfl) :
    PS X (.Raise (some (.Call (.Name n p1) [.Name y p2] [] p3)) none p4) (tRaiseV X.K D C te E) :=
  ps_raise hc tk (pmk_oex (k := 1) R.S.T R.iC I.tI I.ok (hr.mono (by omega)) I.b .nil pass0 hg hm (pa_cons he pa_nil) hdb hs hpl)
end DL
/-! ## data that is shown; lists put together with draws; names -/
namespace DL
open PySem PySem.Spec PyProof.Rows L2
open Evl (Ex)
mutual
def dep : D → Nat
  | .lst xs => 1 + deps xs
  | .tup xs => 1 + deps xs
  | _ => 1
def deps : List D → Nat
  | [] => 0
  | x :: xs => max (dep x) (deps xs)
end
theorem deps_mem {es : List D} {e : D} (h : e ∈ es) : dep e ≤ deps es := by
  induction es with
  | nil => cases h
  | cons x xs ih =>
    simp only [deps]
    rcases List.mem_cons.mp h with rfl | h
    · omega
    · have := ih h; omega
/-- short texts of signs, small numbers, in lists and tuples -/
def okS (s : Str) : Bool := decide (s.length ≤ 400) && s.cps.toList.all fun c => decide (c < 0x110000)
mutual
def showy : D → Bool
  | .lst xs => showys xs
  | .tup xs => showys xs
  | .str s => okS s
  | .int i => decide (0 ≤ i) && decide (i < 100)
  | .non => true
  | .bl _ => true
  | .dic _ => false
  | .ins _ _ => false
  | .val _ => false
def showys : List D → Bool
  | [] => true
  | x :: xs => showy x && showys xs
end
theorem showys_all : ∀ xs : List D, showys xs = xs.all showy
  | [] => by simp [showys]
  | x :: xs => by simp [showys, showys_all xs]
theorem okS_str {s : Str} (h : okS s = true) : PyData.strOk s = true ∧ (PyData.shown (.str s)).length + 2 ≤ 4004 := by
  unfold okS at h
  rw [Bool.and_eq_true, decide_eq_true_eq, List.all_eq_true] at h
  obtain ⟨h1, h2⟩ := h
  have small : ∀ c ∈ s.cps.toList, c < 0x110000 := fun c hc => of_decide_eq_true (h2 c hc)
  refine ⟨?_, ?_⟩
  · unfold PyData.strOk
    rw [Array.all_eq_true]
    exact fun i hi => decide_eq_true (small _ (by simp))
  · have := StrLaws.reprText_len s fun c hc => Nat.lt_trans (small c hc) (by decide)
    show (reprText s).length + 2 ≤ 4004
    omega
theorem int_small : ∀ n : Fin 100, (PyData.shown (.int (n.val : Int))).length ≤ 2 := by decide +kernel
theorem int_log : ∀ n : Fin 100, (PyData.int (n.val : Int)).showable = true := by decide +kernel
theorem list_shown (ts : List Str) : (listText ts).length ≤ 2 + piled ts := by
  unfold listText
  rw [strLen_append]
  cases ts with
  | nil => decide
  | cons t r =>
    show (textFrom 1 ("[" ++ ("" : String) ++ t) r).length + 1 ≤ _
    rw [textFrom_length_pos r 1 _ (by decide), strLen_append, strLen_append, piled_cons]
    have e1 : ((("[" : String) : Str)).length = 1 := rfl
    have e2 : ((("" : String) : Str)).length = 0 := rfl
    rw [e1, e2]
    omega
theorem tup_shown (ts : List Str) : (tupleText ts).length ≤ 3 + piled ts := by
  unfold tupleText
  rw [strLen_append, strLen_append]
  have e1 : ((("(" : String) : Str)).length = 1 := rfl
  have e3 : (((if ts.length == 1 then ",)" else ")" : String) : Str)).length ≤ 2 := by split <;> decide
  have e2 : (Str.join ", " ts).length ≤ piled ts := by
    cases ts with
    | nil => decide
    | cons t r => have := join_length_add (t :: r) (by simp); omega
  omega
mutual
theorem showy_pl : ∀ d : D, showy d = true → d.pl = true ∧ d.py.showable = true ∧ d.py.canLay0 = true ∧ d.py.depth ≤ dep d ∧ d.py.shown.length + 2 ≤ 4004 * sz d
  | .non, _ => ⟨rfl, rfl, rfl, by simp [D.py, PyData.depth, dep], by simp only [sz]; decide⟩
  | .bl b, _ => ⟨rfl, rfl, rfl, by simp [D.py, PyData.depth, dep], by simp only [sz]; cases b <;> decide⟩
  | .int i, h => by
    simp only [showy, Bool.and_eq_true, decide_eq_true_eq] at h
    obtain ⟨n, rfl⟩ : ∃ n : Nat, i = n := ⟨i.toNat, by omega⟩
    have a := int_small ⟨n, by omega⟩
    have b := int_log ⟨n, by omega⟩
    dsimp only at a b
    exact ⟨rfl, b, rfl, by simp [D.py, PyData.depth, dep], by simp only [sz, D.py]; omega⟩
  | .str s, h => by
    obtain ⟨a, b⟩ := okS_str (show okS s = true by simpa [showy] using h)
    exact ⟨rfl, rfl, a, by simp [D.py, PyData.depth, dep], by simp only [sz, D.py]; omega⟩
  | .lst xs, h => by
    obtain ⟨a, b, c, d, e⟩ := showys_pl xs (by simpa [showy] using h)
    refine ⟨by simpa [D.pl] using a, by simpa [D.py, PyData.showable] using b, by simpa [D.py, PyData.canLay0] using c, by rw [D.py, PyData.depth, dep]; omega, ?_⟩
    have := list_shown (PyData.shownAll (D.pys xs))
    simp only [D.py, PyData.shown, sz]
    omega
  | .tup xs, h => by
    obtain ⟨a, b, c, d, e⟩ := showys_pl xs (by simpa [showy] using h)
    refine ⟨by simpa [D.pl] using a, by simpa [D.py, PyData.showable] using b, by simpa [D.py, PyData.canLay0] using c, by rw [D.py, PyData.depth, dep]; omega, ?_⟩
    have := tup_shown (PyData.shownAll (D.pys xs))
    simp only [D.py, PyData.shown, sz]
    omega
  | .dic _, h => by simp [showy] at h
  | .ins _ _, h => by simp [showy] at h
  | .val _, h => by simp [showy] at h
theorem showys_pl : ∀ xs : List D, showys xs = true → D.pls xs = true ∧ PyData.showableAll (D.pys xs) = true ∧ PyData.canLayAll0 (D.pys xs) = true ∧ PyData.depthAll (D.pys xs) ≤ deps xs ∧ piled (PyData.shownAll (D.pys xs)) ≤ 4004 * szs xs
  | [], _ => ⟨by simp [D.pls], by simp [D.pys, PyData.showableAll], by simp [D.pys, PyData.canLayAll0], by simp [D.pys, PyData.depthAll], by simp [D.pys, PyData.shownAll, piled]⟩
  | x :: xs, h => by
    simp only [showys, Bool.and_eq_true] at h
    obtain ⟨a, b, c, d, e⟩ := showy_pl x h.1
    obtain ⟨a2, b2, c2, d2, e2⟩ := showys_pl xs h.2
    refine ⟨by simp [D.pls, a, a2], by simp [D.pys, PyData.showableAll, b, b2], by simp [D.pys, PyData.canLayAll0, c, c2], by simp only [D.pys, PyData.depthAll, deps]; omega, ?_⟩
    simp only [D.pys, PyData.shownAll, szs]
    rw [piled_cons]
    omega
end
theorem showy_sh {d : D} (h : showy d = true) (hd : dep d ≤ 64) : d.sh = true := by
  obtain ⟨a, _, c, e, _⟩ := showy_pl d h
  unfold D.sh SeqAt.shaped
  simp only [a, c, Bool.true_and, decide_eq_true_eq]
  omega
section
variable {K : PySem.W.Frag} [LT K] {p : Option Addr} {S S0 S1 S2 S3 : Wd} {B : Hp} {σ σ' : L2.St} {te ta tb tc to : TE} {d d1 d2 d3 e : D} {ds es : List D} {v : V} {m M n k : Nat} {l l' : En} {i j : Nat} {t : Ty} {G : Ends}
/-- repr of a list that is shown -/
theorem rc_reprY (h : showy (.lst ds) = true) (hd : dep (.lst ds) ≤ 64) (hz : sz (.lst ds) ≤ 4000) : RC K p (rRepr K) [.lst ds] (.str (D.lst ds).py.shown) := by
  obtain ⟨a, b, c, e, f⟩ := showy_pl _ h
  exact rc_reprL a b c (by omega) (by rw [sizeLine_eq]; omega)
/-- xs + ys, lists that come of draws -/
theorem en_cat {PA PB : List D → Prop} (ha : EvN K p ta σ S n (fun d => ∃ xs, d = .lst xs ∧ PA xs)) (hb : EvN K p tb σ S k (fun d => ∃ ys, d = .lst ys ∧ PB ys)) (hz : ∀ xs ys, PA xs → PB ys → xs.length + ys.length ≤ sizeLine) :
    EvN K p (tOp (rAddU K) ta tb) σ S (n + k) (fun d => ∃ zs, d = .lst zs ∧ ∃ xs ys, PA xs ∧ PB ys ∧ zs = xs ++ ys) := fun S1 g hB Q q =>
  ha S1 g (by omega) _ fun u d1 S2 g2 t2 r2 h2 => hb S2 (g.trans g2) (by omega) _ fun v d2 S3 g3 t3 r3 h3 => by
    obtain ⟨xs, rfl, px⟩ := h2
    obtain ⟨ys, rfl, py⟩ := h3
    have r2 := r2.mono g3.ff
    cases r2 with
    | @lst a us _ fa ra =>
    cases r3 with
    | @lst b ws _ fb rb =>
    have e1 := ra.length
    have e2 := rb.length
    have := hz xs ys px py
    refine .inr (.inr (.inl ⟨a, b, us, ws, rfl, rfl, g3.ok.sub _ _ fa, g3.ok.sub _ _ fb, by omega, fun c hc => ?_⟩))
    have g4 := Gr.new (p := p) (o := .lst (us ++ ws)) g3.ok hc
    exact q (.ref c) (.lst (xs ++ ys)) _ ((g2.trans g3).trans g4) (by show S3.T ≤ _; omega) (.lst upd_same ((ra.append rb).mono g4.ff)) ⟨_, rfl, xs, ys, px, py, rfl⟩
theorem EvO.nl {ds : List D} (h : EvO K p te σ S ds) : EvN K p te σ S 0 (fun d => ∃ xs, d = .lst xs ∧ xs = ds) := (h.ed.toN).le (Nat.le_refl _) fun d e => ⟨ds, e, rfl⟩
end
/-! ### names -/
def words : List Str := ["both", "gives", "pick", "or", "nothing", "any", "no", "split", "call", "take", "open", "use", "never", "give", "box", "pair", "fun", "offer", "left", "right", "unit", "rest", "first", "second"]
def letters : Str := "abcdefghijklmnopqrstuvwxyz"
def isLet (c : Nat) : Bool := decide (c ∈ letters.cps.toList)
def isNameS (s : Str) : Bool := decide (1 ≤ s.length) && decide (s.length ≤ 8) && !words.contains s && s.cps.toList.all isLet
def isNameD : D → Bool
  | .str s => isNameS s
  | _ => false
/-- of a known kind, no text too long -/
def kns (d : D) : Prop := kn d ∧ ∀ s, d = .str s → s.length ≤ 1000000
def isLetD : D → Bool
  | .str s => s.cps.toList.all isLet
  | _ => false
theorem signs_let (s : Str) : (((signs s).filter fun _ => true).map fun d => .bl (isLetD d)) = (s.cps.toList.map isLet).map D.bl := by
  rw [List.filter_eq_self.mpr fun _ _ => rfl]
  unfold signs
  rw [List.map_map, List.map_map]
  congr 1
  funext c
  show D.bl ([c].all isLet) = D.bl (isLet c)
  rw [List.all_cons, List.all_nil, Bool.and_true]
def nameTest (s : Str) : Bool := false || (!(decide ((1 : Int) ≤ (s.length : Int)) && decide ((s.length : Int) ≤ 8)) || inD (.str s) (words.map D.str))
theorem nameTest_eq (s : Str) : nameTest s = !(decide (1 ≤ s.length) && decide (s.length ≤ 8) && !words.contains s) := by
  unfold nameTest
  rw [inD_str, show decide ((1 : Int) ≤ (s.length : Int)) = decide (1 ≤ s.length) from decide_eq_decide.mpr (by omega), show decide ((s.length : Int) ≤ 8) = decide (s.length ≤ 8) from decide_eq_decide.mpr (by omega)]
  cases decide (1 ≤ s.length) <;> cases decide (s.length ≤ 8) <;> cases words.contains s <;> rfl
theorem name_no {s : Str} (h : nameTest s = true) : isNameS s = false := by
  rw [nameTest_eq] at h
  unfold isNameS
  cases q : (decide (1 ≤ s.length) && decide (s.length ≤ 8) && !words.contains s)
  · rfl
  · rw [q] at h; cases h
theorem name_yes {s : Str} (h : nameTest s = false) : isNameS s = s.cps.toList.all isLet := by
  rw [nameTest_eq] at h
  unfold isNameS
  cases q : (decide (1 ≤ s.length) && decide (s.length ≤ 8) && !words.contains s)
  · rw [q] at h; cases h
  · rfl
theorem signs_mem {s : Str} {d : D} (h : d ∈ signs s) : ∃ c, d = .str ⟨#[c]⟩ := by
  obtain ⟨c, _, e⟩ := List.mem_map.mp h
  exact ⟨c, e.symm⟩
theorem signs_len {s : Str} {n : Nat} (h : s.length < n) : (signs s).length < n := by
  unfold signs
  rw [List.length_map]
  exact h
end DL
/-! ## statements, plainly -/
namespace DL
open PySem PySem.Spec PyProof.Rows L2
open Evl (Ex)
def bareL : List Str := ["nothing", "any", "no"]
def joinL : List Str := ["both", "gives", "pick", "or"]
def atomS (s : Str) : Bool := bareL.contains s || isNameS s
mutual
/-- a statement's form -/
def stm : D → Bool
  | .str s => atomS s
  | .lst xs => stmR xs
  | .tup xs => stmR xs
  | _ => false
def stmR : List D → Bool
  | [.str j, p, q] => joinL.contains j && (stm p && stm q)
  | _ => false
end
mutual
/-- how many parts -/
def sizeS : D → Nat
  | .lst xs => sizeR xs
  | .tup xs => sizeR xs
  | _ => 1
def sizeR : List D → Nat
  | [.str _, p, q] => 1 + sizeS p + sizeS q
  | _ => 1
end
mutual
/-- itself and all within -/
def partsS : D → List D
  | .lst xs => .lst xs :: partsR xs
  | .tup xs => .tup xs :: partsR xs
  | .str s => [.str s]
  | _ => []
def partsR : List D → List D
  | [.str _, p, q] => partsS p ++ partsS q
  | _ => []
end
mutual
/-- texts short, kinds known -/
def mild : D → Bool
  | .lst xs => milds xs
  | .tup xs => milds xs
  | .str s => decide (s.length ≤ 400)
  | .non => true
  | .bl _ => true
  | .int _ => true
  | .dic _ => true
  | .ins _ _ => false
  | .val _ => false
def milds : List D → Bool
  | [] => true
  | x :: xs => mild x && milds xs
end
theorem milds_mem : ∀ {es : List D}, milds es = true → ∀ e ∈ es, mild e = true
  | [], _, e, h => by cases h
  | x :: xs, f, e, h => by
    rw [milds, Bool.and_eq_true] at f
    rcases List.mem_cons.mp h with rfl | h
    · exact f.1
    · exact milds_mem f.2 e h
theorem mild_row {d : D} {es : List D} (h : rowD d = some es) (f : mild d = true) : milds es = true := by
  cases d <;> simp only [rowD, Option.some.injEq, reduceCtorEq] at h <;> subst h <;> simpa only [mild] using f
mutual
theorem mild_fine : ∀ d : D, mild d = true → fine d = true
  | .lst xs, h => by simpa only [fine] using milds_fine xs (by simpa only [mild] using h)
  | .tup xs, h => by simpa only [fine] using milds_fine xs (by simpa only [mild] using h)
  | .str _, _ => by simp only [fine]
  | .non, _ => by simp only [fine]
  | .bl _, _ => by simp only [fine]
  | .int _, _ => by simp only [fine]
  | .dic _, _ => by simp only [fine]
  | .ins _ _, h => by simp [mild] at h
  | .val _, h => by simp [mild] at h
theorem milds_fine : ∀ xs : List D, milds xs = true → fines xs = true
  | [], _ => by simp only [fines]
  | x :: xs, h => by
    simp only [milds, Bool.and_eq_true] at h
    simp only [fines, mild_fine x h.1, milds_fine xs h.2, Bool.and_self]
end
theorem mild_kns {d : D} (h : mild d = true) : kns d := ⟨fine_kn (mild_fine d h), fun s e => by
  subst e
  simp only [mild, decide_eq_true_eq] at h
  omega⟩
theorem stm_row {d : D} {es : List D} (h : rowD d = some es) : stm d = stmR es := by
  cases d <;> simp only [rowD, Option.some.injEq, reduceCtorEq] at h <;> subst h <;> simp only [stm]
theorem size_row {d : D} {es : List D} (h : rowD d = some es) : sizeS d = sizeR es := by
  cases d <;> simp only [rowD, Option.some.injEq, reduceCtorEq] at h <;> subst h <;> simp only [sizeS]
theorem parts_row {d : D} {es : List D} (h : rowD d = some es) : partsS d = d :: partsR es := by
  cases d <;> simp only [rowD, Option.some.injEq, reduceCtorEq] at h <;> subst h <;> simp only [partsS]
/-- a row of three, a join ahead -/
def join3 (es : List D) : Option (Str × D × D) := match es with
  | [.str j, p, q] => some (j, p, q)
  | _ => none
theorem join3_of {es : List D} {j : Str} {p q : D} (h : join3 es = some (j, p, q)) : es = [.str j, p, q] := by
  unfold join3 at h
  split at h
  · cases h; rfl
  · cases h
theorem stmR_no {es : List D} (h : join3 es = none) : stmR es = false := by
  unfold join3 at h
  split at h
  · cases h
  · rename_i no
    unfold stmR
    split
    · exact absurd rfl (no _ _ _)
    · rfl
theorem stm_cases {d : D} (h : stm d = true) : (∃ s, d = .str s ∧ atomS s = true) ∨ ∃ j p q, rowD d = some [.str j, p, q] ∧ joinL.contains j = true ∧ stm p = true ∧ stm q = true := by
  have row : ∀ es, rowD d = some es → ∃ j p q, rowD d = some [.str j, p, q] ∧ joinL.contains j = true ∧ stm p = true ∧ stm q = true := fun es he => by
    rw [stm_row he] at h
    cases e : join3 es with
    | none => rw [stmR_no e] at h; cases h
    | some t =>
      obtain ⟨j, p, q⟩ := t
      have := join3_of e
      subst this
      simp only [stmR, Bool.and_eq_true] at h
      exact ⟨j, p, q, he, h.1, h.2.1, h.2.2⟩
  cases d with
  | str s => exact .inl ⟨s, rfl, by simpa only [stm] using h⟩
  | lst xs => exact .inr (row xs rfl)
  | tup xs => exact .inr (row xs rfl)
  | _ => simp [stm] at h
/-- by what a statement is -/
theorem stm_ind {motive : D → Prop} (atom : ∀ s, atomS s = true → motive (.str s)) (join : ∀ d j p q, rowD d = some [.str j, p, q] → joinL.contains j = true → stm p = true → stm q = true → motive p → motive q → motive d) : ∀ n d, sz d ≤ n → stm d = true → motive d
  | 0, d, hz, _ => by have := sz_pos d; omega
  | n + 1, d, hz, h => by
    rcases stm_cases h with ⟨s, rfl, hs⟩ | ⟨j, p, q, hd, hj, hp, hq⟩
    · exact atom s hs
    · have := row_sz hd
      simp only [szs, sz] at this
      exact join d j p q hd hj hp hq (stm_ind atom join n p (by omega) hp) (stm_ind atom join n q (by omega) hq)
theorem size_pos (d : D) : 1 ≤ sizeS d := by
  have row : ∀ es : List D, 1 ≤ sizeR es := fun es => by
    unfold sizeR
    split <;> omega
  cases d <;> simp only [sizeS] <;> first | exact row _ | exact Nat.le_refl _
theorem size_join {d p q : D} {j : Str} (h : rowD d = some [.str j, p, q]) : sizeS d = 1 + sizeS p + sizeS q := by rw [size_row h]; simp only [sizeR]
theorem parts_join {d p q : D} {j : Str} (h : rowD d = some [.str j, p, q]) : partsS d = d :: (partsS p ++ partsS q) := by rw [parts_row h]; simp only [partsR]
theorem stm_join {d p q : D} {j : Str} (h : rowD d = some [.str j, p, q]) : stm d = (joinL.contains j && (stm p && stm q)) := by rw [stm_row h]; simp only [stmR]
theorem fix_join {d p q : D} {j : Str} (h : rowD d = some [.str j, p, q]) : fixD d = .tup [.str j, fixD p, fixD q] := by rw [fixD_row h]; simp [fixD]
theorem parts_len {d : D} (h : stm d = true) : (partsS d).length = sizeS d := by
  refine stm_ind (motive := fun d => (partsS d).length = sizeS d) (fun s _ => by simp [partsS, sizeS]) (fun d j p q hd _ _ _ h1 h2 => ?_) _ d (Nat.le_refl _) h
  rw [parts_join hd, size_join hd, List.length_cons, List.length_append, h1, h2]
  omega
theorem parts_stm {d : D} (h : stm d = true) : ∀ x ∈ partsS d, stm x = true := by
  refine stm_ind (motive := fun d => ∀ x ∈ partsS d, stm x = true) (fun s hs x hx => ?_) (fun d j p q hd hj hp hq h1 h2 x hx => ?_) _ d (Nat.le_refl _) h
  · simp only [partsS, List.mem_singleton] at hx
    rw [hx]
    simpa only [stm] using hs
  · rw [parts_join hd, List.mem_cons, List.mem_append] at hx
    rcases hx with rfl | hx | hx
    · rw [stm_join hd, hj, hp, hq]; rfl
    · exact h1 x hx
    · exact h2 x hx
theorem parts_mild {d : D} (h : stm d = true) (hm : mild d = true) : ∀ x ∈ partsS d, mild x = true := by
  refine (stm_ind (motive := fun d => mild d = true → ∀ x ∈ partsS d, mild x = true) (fun s hs hm x hx => ?_) (fun d j p q hd hj hp hq h1 h2 hm x hx => ?_) _ d (Nat.le_refl _) h) hm
  · simp only [partsS, List.mem_singleton] at hx
    rw [hx]
    exact hm
  · have ms := mild_row hd hm
    simp only [milds, Bool.and_eq_true, Bool.and_true] at ms
    rw [parts_join hd, List.mem_cons, List.mem_append] at hx
    rcases hx with rfl | hx | hx
    · exact hm
    · exact h1 ms.2.1 x hx
    · exact h2 ms.2.2 x hx
theorem fix_stm : ∀ n d, sz d ≤ n → stm (fixD d) = stm d ∧ sizeS (fixD d) = sizeS d
  | 0, d, hz => by have := sz_pos d; omega
  | n + 1, d, hz => by
    cases hr : rowD d with
    | none => rw [fixD_leaf hr]; exact ⟨rfl, rfl⟩
    | some es =>
      have zd := row_sz hr
      cases e : join3 es with
      | some t =>
        obtain ⟨j, p, q⟩ := t
        have := join3_of e
        subst this
        simp only [szs, sz] at zd
        obtain ⟨a1, a2⟩ := fix_stm n p (by omega)
        obtain ⟨b1, b2⟩ := fix_stm n q (by omega)
        have hf : rowD (fixD d) = some [.str j, fixD p, fixD q] := by rw [fix_join hr]; rfl
        rw [stm_join hf, stm_join hr, size_join hf, size_join hr, a1, a2, b1, b2]
        exact ⟨rfl, rfl⟩
      | none =>
        have hf : rowD (fixD d) = some (es.map fixD) := by rw [fixD_row hr]; rfl
        have e2 : join3 (es.map fixD) = none := by
          cases e3 : join3 (es.map fixD) with
          | none => rfl
          | some t =>
            exfalso
            obtain ⟨j, p, q⟩ := t
            have z := join3_of e3
            match es, z, e with
            | [x, y, w], z, e =>
              simp only [List.map_cons, List.map_nil, List.cons.injEq, and_true] at z
              obtain ⟨z, _⟩ := z
              cases x <;> simp [fixD] at z
              simp [join3] at e
            | [], z, _ => simp at z
            | [_], z, _ => simp at z
            | [_, _], z, _ => simp at z
            | _ :: _ :: _ :: _ :: _, z, _ => simp at z
        have s1 : ∀ xs : List D, join3 xs = none → sizeR xs = 1 := fun xs h => by
          unfold join3 at h
          split at h
          · cases h
          · rename_i no
            unfold sizeR
            split
            · exact absurd rfl (no _ _ _)
            · rfl
        rw [stm_row hr, stm_row hf, stmR_no e, stmR_no e2, size_row hr, size_row hf, s1 _ e, s1 _ e2]
        exact ⟨rfl, rfl⟩
/-! ### kinds, texts -/
/-- a kind: a text that is none of nothing, any, no -/
def kindOf : D → Option Str
  | .str s => if bareL.contains s then none else some s
  | _ => none
def kindsOf (ds : List D) : List Str := ds.filterMap kindOf
def kindsT (ds : List D) : D := .tup ((srtS (kindsOf ds)).map D.str)
def wordOf (d : D) : Str := match d with
  | .str s => s
  | d => match rowD d with
    | some (.str j :: _) => j
    | _ => Str.empty
def textS (d : D) : Str := Txt.join " " ((partsS d).map wordOf)
theorem join_short (a : Str) : ∀ ys : List Str, (Str.join a ys).length ≤ (ys.map (·.length)).sum + ys.length * a.length
  | [] => Nat.zero_le _
  | [x] => by simp [Str.join]
  | x :: y :: r => by
    have ih := join_short a (y :: r)
    show (x ++ a ++ Str.join a (y :: r)).length ≤ _
    rw [strLen_append, strLen_append]
    simp only [List.map_cons, List.sum_cons, List.length_cons] at ih ⊢
    have : (r.length + 1 + 1) * a.length = (r.length + 1) * a.length + a.length := by rw [Nat.succ_mul]
    omega
theorem cps_append (x y : Str) : (x ++ y).cps.toList = x.cps.toList ++ y.cps.toList := by
  cases x; cases y
  exact Array.toList_append
theorem join_signs (a : Str) (f : Nat → Bool) (ha : a.cps.toList.all f = true) : ∀ ys : List Str, (∀ y ∈ ys, y.cps.toList.all f = true) → (Str.join a ys).cps.toList.all f = true
  | [], _ => rfl
  | [x], h => h x List.mem_cons_self
  | x :: y :: r, h => by
    have ih := join_signs a f ha (y :: r) fun z hz => h z (List.mem_cons_of_mem _ hz)
    show (x ++ a ++ Str.join a (y :: r)).cps.toList.all f = true
    rw [cps_append, cps_append, List.all_append, List.all_append, h x List.mem_cons_self, ha, ih]
    rfl
theorem okS_join {ys : List Str} (h : ∀ y ∈ ys, y.length ≤ 8 ∧ okS y = true) (few : ys.length ≤ 40) : okS (Txt.join " " ys) = true ∧ (ys.map (·.length)).sum + ys.length * (" " : Str).length ≤ 16777216 := by
  have sum : (ys.map (·.length)).sum ≤ ys.length * 8 := by
    clear few
    induction ys with
    | nil => exact Nat.le_refl _
    | cons y ys ih =>
      have := ih fun z hz => h z (List.mem_cons_of_mem _ hz)
      have := (h y List.mem_cons_self).1
      simp only [List.map_cons, List.sum_cons, List.length_cons]
      omega
  have one : ((" " : String) : Str).length = 1 := rfl
  have s1 := join_short " " ys
  rw [one] at s1 ⊢
  refine ⟨?_, by omega⟩
  rw [TL.join_eq]
  unfold okS
  rw [Bool.and_eq_true, decide_eq_true_eq]
  refine ⟨by omega, join_signs " " (fun c => decide (c < 0x110000)) (by decide) ys fun y hy => ?_⟩
  have := (h y hy).2
  unfold okS at this
  rw [Bool.and_eq_true] at this
  exact this.2
/-! ### statements that are drawn: tuples over known words -/
def atomsL : List Str := ["coin", "tea", "a", "b", "abcdefgh", "nothing", "any", "no"]
inductive Drn : D → Nat → Prop where
  | atom {s : Str} : s ∈ atomsL → Drn (.str s) 1
  | join {j : Str} {p q : D} {n m : Nat} : j ∈ joinL → Drn p n → Drn q m → Drn (.tup [.str j, p, q]) (1 + n + m)
theorem word_ok : ∀ s ∈ atomsL ++ joinL, s.length ≤ 8 ∧ okS s = true := by
  have : ((atomsL ++ joinL).all fun s => decide (s.length ≤ 8) && okS s) = true := by decide +kernel
  rw [List.all_eq_true] at this
  intro s hs
  simpa using this s hs
theorem atom_ok : ∀ s ∈ atomsL, atomS s = true := by
  have : (atomsL.all atomS) = true := by decide +kernel
  exact List.all_eq_true.mp this
theorem Drn.pos {d : D} {n : Nat} (h : Drn d n) : 1 ≤ n := by cases h <;> omega
theorem Drn.row {j : Str} {p q : D} : rowD (.tup [.str j, p, q]) = some [.str j, p, q] := rfl
theorem Drn.stm {d : D} {n : Nat} (h : Drn d n) : stm d = true := by
  induction h with
  | atom hs => simpa only [DL.stm] using atom_ok _ hs
  | join hj _ _ h1 h2 =>
    rw [stm_join Drn.row, h1, h2]
    simpa using hj
theorem Drn.size {d : D} {n : Nat} (h : Drn d n) : sizeS d = n := by
  induction h with
  | atom => simp [sizeS]
  | join _ _ _ h1 h2 => rw [size_join Drn.row, h1, h2]
theorem Drn.fix {d : D} {n : Nat} (h : Drn d n) : fixD d = d := by
  induction h with
  | atom => simp [fixD]
  | join _ _ _ h1 h2 => rw [fix_join Drn.row, h1, h2]
theorem Drn.mild {d : D} {n : Nat} (h : Drn d n) : mild d = true := by
  induction h with
  | atom hs =>
    have := (word_ok _ (List.mem_append_left _ hs)).1
    simp only [DL.mild, decide_eq_true_eq]
    omega
  | join hj _ _ h1 h2 =>
    have := (word_ok _ (List.mem_append_right _ hj)).1
    simp only [DL.mild, milds, h1, h2, Bool.and_true, decide_eq_true_eq]
    omega
theorem Drn.showy {d : D} {n : Nat} (h : Drn d n) : showy d = true := by
  induction h with
  | atom hs => simpa only [DL.showy] using (word_ok _ (List.mem_append_left _ hs)).2
  | join hj _ _ h1 h2 => simp only [DL.showy, showys, h1, h2, (word_ok _ (List.mem_append_right _ hj)).2, Bool.and_self]
theorem Drn.sz {d : D} {n : Nat} (h : Drn d n) : sz d + 1 ≤ 2 * n := by
  induction h with
  | atom => simp [DL.sz]
  | join _ h1 h2 a b => simp only [DL.sz, szs]; have := h1.pos; have := h2.pos; omega
theorem Drn.dep {d : D} {n : Nat} (h : Drn d n) : 2 * dep d ≤ n + 1 := by
  induction h with
  | atom => simp [DL.dep]
  | join _ h1 h2 a b => simp only [DL.dep, deps]; have := h1.pos; have := h2.pos; omega
theorem Drn.parts {d : D} {n : Nat} (h : Drn d n) : ∀ x ∈ partsS d, ∃ m, m ≤ n ∧ Drn x m := by
  induction h with
  | atom hs =>
    intro x hx
    simp only [partsS, List.mem_singleton] at hx
    exact ⟨1, Nat.le_refl _, hx ▸ .atom hs⟩
  | @join j p q n m hj g1 g2 h1 h2 =>
    intro x hx
    rw [parts_join Drn.row, List.mem_cons, List.mem_append] at hx
    rcases hx with rfl | hx | hx
    · exact ⟨_, Nat.le_refl _, .join hj g1 g2⟩
    · obtain ⟨k, hk, g⟩ := h1 x hx; exact ⟨k, by omega, g⟩
    · obtain ⟨k, hk, g⟩ := h2 x hx; exact ⟨k, by omega, g⟩
theorem Drn.word {d : D} {n : Nat} (h : Drn d n) : wordOf d ∈ atomsL ++ joinL := by
  cases h with
  | atom hs => exact List.mem_append_left _ hs
  | join hj => exact List.mem_append_right _ hj
theorem Drn.text {d : D} {n : Nat} (h : Drn d n) (few : n ≤ 40) : okS (textS d) = true ∧ (((partsS d).map wordOf).map (·.length)).sum + ((partsS d).map wordOf).length * (" " : Str).length ≤ 16777216 := by
  refine okS_join (fun y hy => ?_) (by rw [List.length_map, parts_len h.stm, h.size]; exact few)
  obtain ⟨x, hx, rfl⟩ := List.mem_map.mp hy
  obtain ⟨m, _, g⟩ := h.parts x hx
  exact word_ok _ g.word
end DL
local macro_rules | `(tactic| k_extra "rd") => `(tactic| first
  | (with_reducible exact DL.rd_add) | (with_reducible exact DL.rd_I0) | (with_reducible exact DL.rd_B0) | (with_reducible exact DL.rd_isB) | (with_reducible exact DL.rd_notB)
  | ((with_reducible apply DL.rd_isN); rfl) | ((with_reducible apply DL.rd_notN); rfl) | (with_reducible exact DL.rd_neNil) | (with_reducible exact DL.rd_eqNil) | (with_reducible exact DL.rd_eqUs) | (with_reducible exact DL.rd_neUs))
local macro_rules | `(tactic| k_extra "ev") => `(tactic| first
  | (with_reducible exact DL.ed_int) | (with_reducible exact DL.ed_bl) | (with_reducible exact DL.ed_str) | (with_reducible exact DL.ed_non)
  | ((with_reducible apply DL.ed_var); (assumption); (rfl))
  | ((with_reducible apply DL.ed_not); (k_extra "ev"))
  | ((with_reducible apply DL.ed_op); (k_extra "eh"); (k_extra "eh"); (k_extra "rd")))
local macro_rules | `(tactic| k_extra "eh") => `(tactic| first
  | ((with_reducible apply DL.eh_var); (assumption); (rfl))
  | ((with_reducible apply DL.EvD.h); (k_extra "ev"))
  | ((with_reducible apply DL.EvO.h); (with_reducible apply DL.eo_lst); (k_extra "ea"); (decide)))
local macro_rules | `(tactic| k_extra "ea") => `(tactic| first
  | (with_reducible exact DL.ea_nil)
  | ((with_reducible apply DL.ea_cons); (k_extra "ev"); (k_extra "ea")))
namespace K02
open PySem L2 DL
def top (i : Nat) : Stmt := PySem.Challenge.pw_paidatmost_k02_statements_and_their_text.main.body.getD i (.Pass ⟨0, 0, 0, 0⟩)
abbrev s_is_row : Stmt := top 16
abbrev s_is_name : Stmt := top 17
abbrev s_PartError___init__ : Stmt := inClass (top 20) 0
abbrev s_BadName___init__ : Stmt := inClass (top 30) 0
abbrev s_BadText___init__ : Stmt := inClass (top 31) 0
abbrev s_BadCommand___init__ : Stmt := inClass (top 32) 0
abbrev s_TooMany___init__ : Stmt := inClass (top 33) 0
abbrev s_fixed : Stmt := top 35
abbrev s_statement_in : Stmt := top 38
abbrev s_is_statement : Stmt := top 39
abbrev s_need_statement : Stmt := top 40
abbrev s_parts_in : Stmt := top 41
abbrev s_is_kind : Stmt := top 42
abbrev s_kinds_in : Stmt := top 43
abbrev s_text_in : Stmt := top 44
abbrev s_parts_of : Stmt := top 45
abbrev s_size_of : Stmt := top 46
abbrev s_kinds_of : Stmt := top 47
abbrev s_statement_text : Stmt := top 48
abbrev s__law_pen : Stmt := top 50
abbrev s__law_draw : Stmt := top 51
abbrev s__law_pick : Stmt := top 52
abbrev s__law_heard : Stmt := top 53
abbrev s__law_parts : Stmt := top 54
abbrev s__law_text : Stmt := top 55
abbrev s__law_statement : Stmt := top 56
abbrev s__law_listed : Stmt := top 57
abbrev s__law_long : Stmt := top 58
abbrev s__law_bent : Stmt := top 59
abbrev s_law : Stmt := top 60
def gv_is_statement_value {α : Type} : List α → List α → List α := fun us zs => match us, zs with
  | [], [x0] => [x0]
  | _, _ => []
def gv_parts_of_statement {α : Type} : List α → List α → List α := fun us zs => match us, zs with
  | [], [x0] => [x0]
  | _, _ => []
def gv_size_of_statement {α : Type} : List α → List α → List α := fun us zs => match us, zs with
  | [], [x0] => [x0]
  | _, _ => []
def gv_statement_text_statement {α : Type} : List α → List α → List α := fun us zs => match us, zs with
  | [], [x0] => [x0]
  | _, _ => []
structure Fs (P : Program) (w : World) (K : PySem.W.Frag) (mg : Str → Option Value) where
  a_is_row : Addr
  d_is_row : FuncData
  F_is_row : Fun K "is_row" "is_row" s_is_row a_is_row d_is_row
  m_is_row : mg "is_row" = some (.ref a_is_row)
  b_is_row : Binds K d_is_row ["value"] []
  a_is_name : Addr
  d_is_name : FuncData
  F_is_name : Fun K "is_name" "is_name" s_is_name a_is_name d_is_name
  m_is_name : mg "is_name" = some (.ref a_is_name)
  b_is_name : Binds K d_is_name ["value"] []
  a_fixed : Addr
  d_fixed : FuncData
  F_fixed : Fun K "fixed" "fixed" s_fixed a_fixed d_fixed
  m_fixed : mg "fixed" = some (.ref a_fixed)
  b_fixed : Binds K d_fixed ["value"] []
  a_statement_in : Addr
  d_statement_in : FuncData
  F_statement_in : Fun K "statement_in" "statement_in" s_statement_in a_statement_in d_statement_in
  m_statement_in : mg "statement_in" = some (.ref a_statement_in)
  b_statement_in : Binds K d_statement_in ["value"] []
  a_is_statement : Addr
  d_is_statement : FuncData
  F_is_statement : Fun K "is_statement" "is_statement" s_is_statement a_is_statement d_is_statement
  m_is_statement : mg "is_statement" = some (.ref a_is_statement)
  b_is_statement : Binds K d_is_statement ["value"] []
  a_need_statement : Addr
  d_need_statement : FuncData
  e_need_statement : List Value
  F_need_statement : FunT K "need_statement" "need_statement" s_need_statement ["statement"] a_need_statement d_need_statement
  m_need_statement : mg "need_statement" = some (.ref a_need_statement)
  v_need_statement : Vals [V.str "statement"] e_need_statement
  b_need_statement : Binds K d_need_statement ["value", "part"] e_need_statement
  a_parts_in : Addr
  d_parts_in : FuncData
  F_parts_in : Fun K "parts_in" "parts_in" s_parts_in a_parts_in d_parts_in
  m_parts_in : mg "parts_in" = some (.ref a_parts_in)
  b_parts_in : Binds K d_parts_in ["statement"] []
  a_is_kind : Addr
  d_is_kind : FuncData
  F_is_kind : Fun K "is_kind" "is_kind" s_is_kind a_is_kind d_is_kind
  m_is_kind : mg "is_kind" = some (.ref a_is_kind)
  b_is_kind : Binds K d_is_kind ["statement"] []
  a_kinds_in : Addr
  d_kinds_in : FuncData
  F_kinds_in : Fun K "kinds_in" "kinds_in" s_kinds_in a_kinds_in d_kinds_in
  m_kinds_in : mg "kinds_in" = some (.ref a_kinds_in)
  b_kinds_in : Binds K d_kinds_in ["statements"] []
  a_text_in : Addr
  d_text_in : FuncData
  F_text_in : Fun K "text_in" "text_in" s_text_in a_text_in d_text_in
  m_text_in : mg "text_in" = some (.ref a_text_in)
  b_text_in : Binds K d_text_in ["statement"] []
  a_parts_of : Addr
  d_parts_of : FuncData
  F_parts_of : Fun K "parts_of" "parts_of" s_parts_of a_parts_of d_parts_of
  m_parts_of : mg "parts_of" = some (.ref a_parts_of)
  b_parts_of : Binds K d_parts_of ["statement"] []
  a_size_of : Addr
  d_size_of : FuncData
  F_size_of : Fun K "size_of" "size_of" s_size_of a_size_of d_size_of
  m_size_of : mg "size_of" = some (.ref a_size_of)
  b_size_of : Binds K d_size_of ["statement"] []
  a_kinds_of : Addr
  d_kinds_of : FuncData
  F_kinds_of : Fun K "kinds_of" "kinds_of" s_kinds_of a_kinds_of d_kinds_of
  m_kinds_of : mg "kinds_of" = some (.ref a_kinds_of)
  b_kinds_of : Binds K d_kinds_of ["statement"] []
  a_statement_text : Addr
  d_statement_text : FuncData
  F_statement_text : Fun K "statement_text" "statement_text" s_statement_text a_statement_text d_statement_text
  m_statement_text : mg "statement_text" = some (.ref a_statement_text)
  b_statement_text : Binds K d_statement_text ["statement"] []
  a__law_pen : Addr
  d__law_pen : FuncData
  F__law_pen : Fun K "_law_pen" "_law_pen" s__law_pen a__law_pen d__law_pen
  m__law_pen : mg "_law_pen" = some (.ref a__law_pen)
  b__law_pen : Binds K d__law_pen ["script"] []
  a__law_draw : Addr
  d__law_draw : FuncData
  F__law_draw : Fun K "_law_draw" "_law_draw" s__law_draw a__law_draw d__law_draw
  m__law_draw : mg "_law_draw" = some (.ref a__law_draw)
  b__law_draw : Binds K d__law_draw ["pen", "many"] []
  a__law_pick : Addr
  d__law_pick : FuncData
  F__law_pick : Fun K "_law_pick" "_law_pick" s__law_pick a__law_pick d__law_pick
  m__law_pick : mg "_law_pick" = some (.ref a__law_pick)
  b__law_pick : Binds K d__law_pick ["pen", "some"] []
  a__law_heard : Addr
  d__law_heard : FuncData
  F__law_heard : Fun K "_law_heard" "_law_heard" s__law_heard a__law_heard d__law_heard
  m__law_heard : mg "_law_heard" = some (.ref a__law_heard)
  b__law_heard : Binds K d__law_heard ["ask"] []
  a__law_parts : Addr
  d__law_parts : FuncData
  F__law_parts : Fun K "_law_parts" "_law_parts" s__law_parts a__law_parts d__law_parts
  m__law_parts : mg "_law_parts" = some (.ref a__law_parts)
  b__law_parts : Binds K d__law_parts ["statement"] []
  a__law_text : Addr
  d__law_text : FuncData
  F__law_text : Fun K "_law_text" "_law_text" s__law_text a__law_text d__law_text
  m__law_text : mg "_law_text" = some (.ref a__law_text)
  b__law_text : Binds K d__law_text ["statement"] []
  a__law_statement : Addr
  d__law_statement : FuncData
  F__law_statement : Fun K "_law_statement" "_law_statement" s__law_statement a__law_statement d__law_statement
  m__law_statement : mg "_law_statement" = some (.ref a__law_statement)
  b__law_statement : Binds K d__law_statement ["pen", "kinds", "deep"] []
  a__law_listed : Addr
  d__law_listed : FuncData
  F__law_listed : Fun K "_law_listed" "_law_listed" s__law_listed a__law_listed d__law_listed
  m__law_listed : mg "_law_listed" = some (.ref a__law_listed)
  b__law_listed : Binds K d__law_listed ["pen", "statement"] []
  a__law_long : Addr
  d__law_long : FuncData
  F__law_long : Fun K "_law_long" "_law_long" s__law_long a__law_long d__law_long
  m__law_long : mg "_law_long" = some (.ref a__law_long)
  b__law_long : Binds K d__law_long ["pen", "many"] []
  a__law_bent : Addr
  d__law_bent : FuncData
  F__law_bent : Fun K "_law_bent" "_law_bent" s__law_bent a__law_bent d__law_bent
  m__law_bent : mg "_law_bent" = some (.ref a__law_bent)
  b__law_bent : Binds K d__law_bent ["pen", "statement"] []
  a_law : Addr
  d_law : FuncData
  F_law : Fun K "law" "law" s_law a_law d_law
  m_law : mg "law" = some (.ref a_law)
  b_law : Binds K d_law ["script"] []
  c_law : Addr
  p_law : Addr
  C_law : FunC K "law" "law" s_law a_law d_law c_law
  a_BadCode : Addr
  m_BadCode : mg "BadCode" = some (.ref a_BadCode)
  a_BadLibrary : Addr
  m_BadLibrary : mg "BadLibrary" = some (.ref a_BadLibrary)
  a_BadNumber : Addr
  m_BadNumber : mg "BadNumber" = some (.ref a_BadNumber)
  a_BadPaper : Addr
  m_BadPaper : mg "BadPaper" = some (.ref a_BadPaper)
  a_BadSheet : Addr
  m_BadSheet : mg "BadSheet" = some (.ref a_BadSheet)
  a_BadStatement : Addr
  m_BadStatement : mg "BadStatement" = some (.ref a_BadStatement)
  a_BadValue : Addr
  m_BadValue : mg "BadValue" = some (.ref a_BadValue)
  a_BadWay : Addr
  m_BadWay : mg "BadWay" = some (.ref a_BadWay)
  a_Misfit : Addr
  m_Misfit : mg "Misfit" = some (.ref a_Misfit)
  a_PaidError : Addr
  m_PaidError : mg "PaidError" = some (.ref a_PaidError)
  a_PartError : Addr
  m_PartError : mg "PartError" = some (.ref a_PartError)
  a_PartI : Addr
  d_PartI : FuncData
  I_PartError : PartI P K mg a_PartError a_PartI d_PartI
  R_BadStatement : RaiseI K a_PartError a_PartI a_BadStatement
  H_BadStatement : Heard K a_BadStatement
  e_BadStatement : PySem.W.exmOne K (.ref a_BadStatement) (.ref a_PaidError) = some true
  i_BadStatement_BadStatement : PySem.W.kitOne K (.ref a_BadStatement) (.ref a_BadStatement) = some true
  i_BadStatement_BadSheet : PySem.W.kitOne K (.ref a_BadStatement) (.ref a_BadSheet) = some false
  i_BadStatement_BadWay : PySem.W.kitOne K (.ref a_BadStatement) (.ref a_BadWay) = some false
  i_BadStatement_BadCode : PySem.W.kitOne K (.ref a_BadStatement) (.ref a_BadCode) = some false
  i_BadStatement_BadValue : PySem.W.kitOne K (.ref a_BadStatement) (.ref a_BadValue) = some false
  i_BadStatement_BadNumber : PySem.W.kitOne K (.ref a_BadStatement) (.ref a_BadNumber) = some false
  i_BadStatement_BadPaper : PySem.W.kitOne K (.ref a_BadStatement) (.ref a_BadPaper) = some false
  i_BadStatement_BadLibrary : PySem.W.kitOne K (.ref a_BadStatement) (.ref a_BadLibrary) = some false
  i_BadStatement_Misfit : PySem.W.kitOne K (.ref a_BadStatement) (.ref a_Misfit) = some false
  k_is_statement_value : KBinds K d_is_statement ["value"] ["value"] gv_is_statement_value gv_is_statement_value
  k_parts_of_statement : KBinds K d_parts_of ["statement"] ["statement"] gv_parts_of_statement gv_parts_of_statement
  k_size_of_statement : KBinds K d_size_of ["statement"] ["statement"] gv_size_of_statement gv_size_of_statement
  k_statement_text_statement : KBinds K d_statement_text ["statement"] ["statement"] gv_statement_text_statement gv_statement_text_statement
  a_BARE : Addr
  g_BARE : mg "BARE" = some (.ref a_BARE)
  t_BARE : KTup K a_BARE ["nothing", "any", "no"]
  a_JOINS : Addr
  g_JOINS : mg "JOINS" = some (.ref a_JOINS)
  t_JOINS : KTup K a_JOINS ["both", "gives", "pick", "or"]
  g_LETTERS : ∃ t, mg "LETTERS" = some (.str "abcdefghijklmnopqrstuvwxyz" t)
  g_MOST_PARTS : ∃ t, mg "MOST_PARTS" = some (.int 24 t)
  g_MOST_SIGNS : ∃ t, mg "MOST_SIGNS" = some (.int 8 t)
  a_WORDS : Addr
  g_WORDS : mg "WORDS" = some (.ref a_WORDS)
  t_WORDS : KTup K a_WORDS ["both", "gives", "pick", "or", "nothing", "any", "no", "split", "call", "take", "open", "use", "never", "give", "box", "pair", "fun", "offer", "left", "right", "unit", "rest", "first", "second"]
  z_abs : mg "abs" = none
  z_all : mg "all" = none
  z_int : mg "int" = none
  z_isinstance : mg "isinstance" = none
  z_len : mg "len" = none
  z_list : mg "list" = none
  z_range : mg "range" = none
  z_repr : mg "repr" = none
  z_set : mg "set" = none
  z_sorted : mg "sorted" = none
  z_str : mg "str" = none
  z_tuple : mg "tuple" = none
theorem le_line {n : Nat} (h : n ≤ 1000000) : n ≤ sizeLine := by rw [sizeLine_eq]; omega
theorem lt_line {n : Nat} (h : n ≤ 1000000) : n < sizeLine := by rw [sizeLine_eq]; omega
/-- a value that may be asked -/
def okV (d : D) : Prop := mild d = true ∧ sz d ≤ 1000000
def isSt (d : D) : Bool := stm d && decide (sizeS d ≤ 24)
def stF (d : D) : D := if isSt d = true then fixD d else .non
def sizes (L : List D) : Nat := (L.map sizeS).sum
theorem sizes_app (xs ys : List D) : sizes (xs ++ ys) = sizes xs + sizes ys := by simp [sizes]
theorem milds_app (xs ys : List D) : milds (xs ++ ys) = (milds xs && milds ys) := by
  induction xs with
  | nil => simp [milds]
  | cons x xs ih => simp only [List.cons_append, milds, ih, Bool.and_assoc]
/-- isinstance(x, str) -/
theorem et_str {K : PySem.W.Frag} [LT K] {p : Option Addr} {te : TE} {σ : L2.St} {S : Wd} {d : D} (h : EvD K p te σ S d) (hk : kn d) : EvT K p (tB (tCB (rIsi K) (tCons te (tCons (tC (.ty "str")) tNil)))) σ S (isStrD d) := et_B (ed_isi (EvD.h h) (kn_str hk))
theorem str_of {d : D} (h : isStrD d = true) : ∃ s, d = .str s := by
  cases d <;> first | exact ⟨_, rfl⟩ | cases h
theorem mild_kn {d : D} (h : mild d = true) : kn d := (mild_kns h).1
theorem size_sz : ∀ n d, sz d ≤ n → stm d = true → sizeS d ≤ sz d := fun n d hn h => stm_ind (motive := fun d => sizeS d ≤ sz d) (fun s _ => by simp [sizeS, sz]) (fun d j p q hd _ _ _ h1 h2 => by
  have := row_sz hd
  simp only [szs, sz] at this
  rw [size_join hd]
  omega) n d hn h
def isKind (d : D) : Bool := (kindOf d).isSome
theorem kind_no {d : D} (h : isStrD d = false) : isKind d = false := by
  cases d <;> first | rfl | cases h
theorem kind_str (s : Str) : isKind (.str s) = !bareL.contains s := by
  show (if bareL.contains s = true then none else some s).isSome = _
  cases bareL.contains s <;> rfl
def strOfD : D → Str
  | .str s => s
  | _ => Str.empty
theorem kinds_map : ∀ ds : List D, (ds.filter isKind).map strOfD = kindsOf ds ∧ (ds.filter isKind).map (fun d => d) = (kindsOf ds).map D.str
  | [] => ⟨rfl, rfl⟩
  | d :: ds => by
    obtain ⟨a, b⟩ := kinds_map ds
    unfold kindsOf at a b ⊢
    by_cases h : ∃ s, d = .str s
    · obtain ⟨s, rfl⟩ := h
      cases q : bareL.contains s with
      | true =>
        have e : kindOf (.str s) = none := by
          show (if bareL.contains s = true then none else some s) = none
          rw [q]
          rfl
        rw [List.filter_cons_of_neg (by rw [kind_str, q]; decide), List.filterMap_cons_none e]
        exact ⟨a, b⟩
      | false =>
        have e : kindOf (.str s) = some s := by
          show (if bareL.contains s = true then none else some s) = some s
          rw [q]
          rfl
        rw [List.filter_cons_of_pos (by rw [kind_str, q]; rfl), List.filterMap_cons_some e, List.map_cons, List.map_cons, List.map_cons, a, b]
        exact ⟨rfl, rfl⟩
    · have e : kindOf d = none := by cases d <;> first | rfl | exact absurd ⟨_, rfl⟩ h
      have n : isKind d = false := by unfold isKind; rw [e]; rfl
      rw [List.filter_cons_of_neg (by rw [n]; decide), List.filterMap_cons_none e]
      exact ⟨a, b⟩
/-! ## is_row -/
abbrev N_is_row : List Str := ["value"]
theorem sc_is_row : FnScope N_is_row ["value"] (defScope s_is_row) := ⟨rfl, rfl, rfl, by decide +kernel, rfl, by decide +kernel, by decide +kernel⟩
abbrev sp_is_row (K : PySem.W.Frag) [LT K] : Sp := spRow K
def t_is_row {P : Program} {w : World} {K : PySem.W.Frag} [LT K] {mg : Str → Option Value} (Z : Fs P w K mg) : TS :=
  (tRet (tCB (rIsiT K) (tCons (tVar 0) (tCons (tTup (tCons (tC (.ty "list")) (tCons (tC (.ty "tuple")) tNil))) tNil))))
theorem ps_is_row {P : Program} {w : World} {K : PySem.W.Frag} [LT K] {mg : Str → Option Value} {base : Heap} (Z : Fs P w K mg) {cdv : Value} {A : Around} {outer : List Env} {s : Shared} {H : Hp} {E : XK} (hr : Room 0 (A.deeper (PyProof.Rows.envOfC "is_row" (defScope s_is_row) s.heap.objs.size Z.a_is_row cdv))) :
    PSs (cxOf CX0 P w K mg base N_is_row "is_row" (defScope s_is_row) Z.a_is_row cdv A outer s H E).nox (defBody s_is_row) (t_is_row Z) := by
  have hu := hu_of hr
  have hu64 := hr.units
  have hu66 := hu66_of hr
  exact (pss_one (ps_ret (pe_callB call_isiT (by rfl) Z.z_isinstance (by decide +kernel) (pa_cons (pv 0) (pa_cons (pe_tup (pa_cons (pe_bltn rfl Z.z_list (by decide +kernel) rfl) (pa_cons (pe_bltn rfl Z.z_tuple (by decide +kernel) rfl) pa_nil))) pa_nil)))))
theorem rd_is_row {P : Program} {w : World} {K : PySem.W.Frag} [LT K] {mg : Str → Option Value} (Z : Fs P w K mg) {vs : List V} {H : Hp} {Q : VK} {E : XK} (h : sp_is_row K vs H Q E) : t_is_row Z { nx := fun _ H' => Q .non H', rt := Q } (L2.start N_is_row vs) H := by
  refine fnP1 h (by decide) fun S0 d σ G hp st k => ?_
  exact s_ret st (ed_isi2 (by k_extra "eh") (kn_row hp)) k
theorem ok_is_row {P : Program} {w : World} {K : PySem.W.Frag} [LT K] {mg : Str → Option Value} {base : Heap} (Z : Fs P w K mg) : FnOk P w K mg base CX0 1 Z.a_is_row Z.d_is_row ["value"] (sp_is_row K) :=
  Z.F_is_row.ok sc_is_row (fun _ _ _ _ h => by first | exact spP_len h | exact spN_len h | exact spPen_len h) (fun cdv A outer s H vs Q E hr h => ⟨t_is_row Z, ps_is_row Z hr, rd_is_row Z h⟩)
/-! ## is_name -/
abbrev N_is_name : List Str := ["value", "sign"]
theorem sc_is_name : FnScope N_is_name ["value"] (defScope s_is_name) := ⟨rfl, rfl, rfl, by decide +kernel, rfl, by decide +kernel, by decide +kernel⟩
abbrev sp_is_name (K : PySem.W.Frag) [LT K] : Sp := spP K 1 (fun ds => kns (h0 ds)) (fun ds => .bl (isNameD (h0 ds)))
def t_is_name {P : Program} {w : World} {K : PySem.W.Frag} [LT K] {mg : Str → Option Value} (Z : Fs P w K mg) : TS :=
  (tSeq (tIfS (tOr (tNot (tB (tCB (rIsi K) (tCons (tVar 0) (tCons (tC (.ty "str")) tNil))))) (tOr (tNot (tTest (tChain (rI0 fun i j => .bl (decide (i ≤ j))) (rI0 fun i j => .bl (decide (i ≤ j))) (tC (.int 1)) (tCB (rLenA K) (tCons (tVar 0) tNil)) (tC (.int 8))))) (tTest (tOp (rInV K) (tVar 0) (tC (.ref Z.a_WORDS))))))
    (tRet (tC (.bl false)))
    tNext)
    (tRet (tCB (rAll K) (tCons (tLc (iStr (tVar 0)) (gName 1) tYes (tOp (rInV K) (tVar 1) (tC (.str "abcdefghijklmnopqrstuvwxyz"))) [1]) tNil))))
theorem ps_is_name {P : Program} {w : World} {K : PySem.W.Frag} [LT K] {mg : Str → Option Value} {base : Heap} (Z : Fs P w K mg) {cdv : Value} {A : Around} {outer : List Env} {s : Shared} {H : Hp} {E : XK} (hr : Room 0 (A.deeper (PyProof.Rows.envOfC "is_name" (defScope s_is_name) s.heap.objs.size Z.a_is_name cdv))) :
    PSs (cxOf CX0 P w K mg base N_is_name "is_name" (defScope s_is_name) Z.a_is_name cdv A outer s H E).nox (defBody s_is_name) (t_is_name Z) := by
  have hu := hu_of hr
  have hu64 := hr.units
  have hu66 := hu66_of hr
  exact (pss_cons (ps_if (PW.pt (pw_or (pt_not (pt_val (pe_callB call_isi (by rfl) Z.z_isinstance (by decide +kernel) (pa_cons (pv 0) (pa_cons (pe_bltn rfl Z.z_str (by decide +kernel) rfl) pa_nil))))) (pw_or (pt_not (pt_chain op_le op_le pe_int (pe_callB call_lenA (by rfl) Z.z_len (by decide +kernel) (pa_cons (pv 0) pa_nil)) (pe_gi rfl Z.g_MOST_SIGNS))) (pw_or1 (pt_cmpR (op_inV hu) (pv 0) (pe_gr rfl Z.g_WORDS) rfl)))))
    (pss_one (ps_ret pe_bl))
    pss_nil)
    (pss_one (ps_ret (pe_callB (cr_all rfl) (by rfl) Z.z_all (by decide +kernel) (pa_cons (pe_lc (own := [("sign", 1)]) rfl sc_is_name.nd (pi_str (pv 0)) (blkOk_by (own := [("sign", 1)]) (N := N_is_name) (sc := defScope s_is_name) (by decide +kernel)) (fun _ _ _ _ _ => (pg_name (i := 1) sc_is_name.nd rfl (Or.inl rfl))) (fun _ _ _ _ _ => pts_nil) (fun _ _ _ _ _ => (pe_cmpR (op_inV hu) (pv 1) (pe_gs rfl Z.g_LETTERS) rfl))) pa_nil)))))
theorem rd_is_name {P : Program} {w : World} {K : PySem.W.Frag} [LT K] {mg : Str → Option Value} (Z : Fs P w K mg) {vs : List V} {H : Hp} {Q : VK} {E : XK} (h : sp_is_name K vs H Q E) : t_is_name Z { nx := fun _ H' => Q .non H', rt := Q } (L2.start N_is_name vs) H := by
  refine fnP1 h (by decide) fun S0 d σ G hp st k => ?_
  obtain ⟨hk, hl⟩ := hp
  have hk : kn d := hk
  have e1 : isiD "str" d = some (isStrD d) := kn_str hk
  by_cases hs : ∃ s, d = .str s
  · obtain ⟨s, rfl⟩ := hs
    have hz := hl s rfl
    have hw : EvD K none (tC (.ref Z.a_WORDS)) σ S0 (.tup (words.map D.str)) := ed_c Z.t_WORDS.rp
    refine s_seq (s_if st (et_or (a := false) (EvT.is (et_not (et_B (ed_isi (by k_extra "eh") e1))) rfl) fun _ =>
      et_or (et_not (et_test (ed_chain (by k_extra "eh") (EvD.h (ed_cb (eh_cons (by k_extra "eh") eh_nil) (rl_S (le_line hz)))) rd_B0 (fun _ => by k_extra "eh") rd_B0))) fun _ =>
        et_test (ed_op (by k_extra "eh") hw.h (rd_inT2 rfl (flat_str words)))) (fun hb S1 st1 => ?_) (fun hb S1 st1 => ?_))
    · refine s_ret st1 ed_bl (fun v S' g t r => k v S' g t ?_)
      show Rp K S'.F v (.bl (isNameS s))
      rw [name_no hb]
      exact r
    · refine s_next ?_
      dsimp only
      refine (s_ret st1 (EvD.is (ed_cb (eh_cons (EvO.h (eo_lc (i := 1) (vs := [1]) (f := fun d => .bl (isLetD d)) (b := fun _ => true) st1 (es_str (by k_extra "ev")) (by decide) (by decide) (fun d hd B' n' σ' S' st' => ⟨et_yes, fun _ => ?_⟩) (signs_len (lt_line hz)))) eh_nil) (by rw [signs_let]; exact rc_all)) ?_) k)
      · obtain ⟨c, rfl⟩ := signs_mem hd
        refine EvD.is (ed_op (by k_extra "eh") (by k_extra "eh") rd_inS2) ?_
        show D.bl _ = D.bl ([c].all isLet)
        rw [List.all_cons, List.all_nil, Bool.and_true]
        rfl
      · show D.bl _ = D.bl (isNameS s)
        rw [name_yes hb]
        congr 1
        rw [List.all_map]
        rfl
  · have e2 : isiD "str" d = some false := by
      rw [e1]
      cases d <;> first | rfl | exact absurd ⟨_, rfl⟩ hs
    refine s_seq (s_if (b := true) st (et_or (a := true) (b := true) (EvT.is (et_not (et_B (ed_isi (by k_extra "eh") e2))) rfl) fun z => by cases z) (fun hb S1 st1 => ?_) (fun hb S1 st1 => by cases hb))
    · refine s_ret st1 ed_bl (fun v S' g t r => k v S' g t ?_)
      have e : isNameD d = false := by cases d <;> first | rfl | exact absurd ⟨_, rfl⟩ hs
      show Rp K S'.F v (.bl (isNameD d))
      rw [e]
      exact r
theorem ok_is_name {P : Program} {w : World} {K : PySem.W.Frag} [LT K] {mg : Str → Option Value} {base : Heap} (Z : Fs P w K mg) : FnOk P w K mg base CX0 1 Z.a_is_name Z.d_is_name ["value"] (sp_is_name K) :=
  Z.F_is_name.ok sc_is_name (fun _ _ _ _ h => by first | exact spP_len h | exact spN_len h | exact spPen_len h) (fun cdv A outer s H vs Q E hr h => ⟨t_is_name Z, ps_is_name Z hr, rd_is_name Z h⟩)
/-! ## fixed -/
abbrev N_fixed : List Str := ["value", "done", "line", "one", "parts"]
theorem sc_fixed : FnScope N_fixed ["value"] (defScope s_fixed) := ⟨rfl, rfl, rfl, by decide +kernel, rfl, by decide +kernel, by decide +kernel⟩
abbrev sp_fixed (K : PySem.W.Frag) [LT K] : Sp := spFixed K
def t_fixed {P : Program} {w : World} {K : PySem.W.Frag} [LT K] {mg : Str → Option Value} (Z : Fs P w K mg) : TS :=
  (tSeq (tPar 1 2 (tCons (tC .non) (tCons (tLst (tCons (tTup (tCons (tVar 0) (tCons (tC .non) tNil))) tNil)) tNil)))
    (tSeq (tWhile (tTest (tOp (rNeU K) (tVar 2) (tLst tNil)))
    (tSeq (tAsg (tBM0 K "list" rPop (tVar 2)) (gTup K 2 (gCons (gName 3) (gCons (gName 4) gNil))))
    (tSeq (tIfS (tNot (tB (tCall (sp_is_row K) [] E0 (tCons (tVar 3) tNil))))
    (tAsg (tVar 3) (gName 1))
    (tIfS (tTest (tOp rIsN (tVar 4) (tC .non)))
    (tSeq (tDrop (tBM K "list" rAppend (tVar 2) (tCons (tTup (tCons (tVar 3) (tCons (tLst tNil) tNil))) tNil)))
    (tSeq (tAsg (tC .non) (gName 1))
    (tSeq (tIfS (tTest (tOp (rI0 fun i j => .bl (decide (j < i))) (tCB (rLenA K) (tCons (tVar 3) tNil)) (tC (.int 0))))
    (tSeq (tDrop (tBM K "list" rAppend (tVar 2) (tCons (tTup (tCons (tOp (rIx K) (tVar 3) (tC (.int 0))) (tCons (tC .non) tNil))) tNil)))
    tCont)
    tNext)
    (tSeq (tDrop (tBM0 K "list" rPop (tVar 2)))
    (tAsg (tTup tNil) (gName 1))))))
    (tSeq (tDrop (tBM K "list" rAppend (tVar 4) (tCons (tVar 1) tNil)))
    (tSeq (tIfS (tTest (tOp (rI0 fun i j => .bl (decide (i < j))) (tCB (rLenA K) (tCons (tVar 4) tNil)) (tCB (rLenA K) (tCons (tVar 3) tNil))))
    (tSeq (tDrop (tBM K "list" rAppend (tVar 2) (tCons (tTup (tCons (tVar 3) (tCons (tVar 4) tNil))) tNil)))
    (tSeq (tDrop (tBM K "list" rAppend (tVar 2) (tCons (tTup (tCons (tOp (rIx K) (tVar 3) (tCB (rLenA K) (tCons (tVar 4) tNil))) (tCons (tC .non) tNil))) tNil)))
    tCont))
    tNext)
    (tAsg (tCB (rTuple K) (tCons (tVar 4) tNil)) (gName 1))))))
    (tIfS (tTest (tOp (rEqU K) (tVar 2) (tLst tNil)))
    (tRet (tVar 1))
    tNext))))
    (tRet (tVar 1))))
theorem ps_fixed {P : Program} {w : World} {K : PySem.W.Frag} [LT K] {mg : Str → Option Value} {base : Heap} (Z : Fs P w K mg) {cdv : Value} {A : Around} {outer : List Env} {s : Shared} {H : Hp} {E : XK} (hr : Room 1 (A.deeper (PyProof.Rows.envOfC "fixed" (defScope s_fixed) s.heap.objs.size Z.a_fixed cdv))) :
    PSs (cxOf CX0 P w K mg base N_fixed "fixed" (defScope s_fixed) Z.a_fixed cdv A outer s H E).nox (defBody s_fixed) (t_fixed Z) := by
  have hu := hu_of hr
  have hu64 := hr.units
  have hu66 := hu66_of hr
  exact (pss_cons (ps_par (i := 1) (j := 2) rfl sc_fixed.nd rfl rfl (by decide) rfl rfl (pa_cons pe_non (pa_cons (pe_lst (pa_cons (pe_tup (pa_cons (pv 0) (pa_cons pe_non pa_nil))) pa_nil)) pa_nil)) rfl)
    (pss_cons (ps_while PassesOwn.never (pt_cmpR (op_neU hu64) (pv 2) (pe_lst pa_nil) (nomark _))
    (pss_cons (ps_asg (pe_bm0 PySem.F.plainAttrs_list PySem.F.slot_list_pop PySem.F.type_list_pop mt_pop (pv 2)) (pg_tup rfl (pgs_cons (pg_name (i := 3) sc_fixed.nd rfl (Or.inl rfl)) (pgs_cons (pg_name (i := 4) sc_fixed.nd rfl (Or.inl rfl)) pgs_nil))))
    (pss_cons (ps_if (pt_not (pt_val (pe_call (ok_is_row Z) (hr.mono (by decide)) rfl Z.m_is_row Z.F_is_row.kp Z.b_is_row .nil pass0 (pa_cons (pv 3) pa_nil))))
    (pss_one (ps_set (i := 1) sc_fixed.nd rfl (Or.inl rfl) (pv 3)))
    (pss_one (ps_if (pt_cmpR op_isN (pv 4) pe_non (nomark _))
    (pss_cons (ps_expr (pe_bm PySem.F.plainAttrs_list PySem.F.slot_list_append PySem.F.type_list_append mt_append (pv 2) (pa_cons (pe_tup (pa_cons (pv 3) (pa_cons (pe_lst pa_nil) pa_nil))) pa_nil)))
    (pss_cons (ps_set (i := 1) sc_fixed.nd rfl (Or.inl rfl) pe_non)
    (pss_cons (ps_if (pt_cmpR op_gt (pe_callB call_lenA (by rfl) Z.z_len (by decide +kernel) (pa_cons (pv 3) pa_nil)) pe_int (nomark _))
    (pss_cons (ps_expr (pe_bm PySem.F.plainAttrs_list PySem.F.slot_list_append PySem.F.type_list_append mt_append (pv 2) (pa_cons (pe_tup (pa_cons (pe_ix ix_seq (pv 3) pe_int (fun _ _ => rfl)) (pa_cons pe_non pa_nil))) pa_nil)))
    (pss_one ps_continue))
    pss_nil)
    (pss_cons (ps_expr (pe_bm0 PySem.F.plainAttrs_list PySem.F.slot_list_pop PySem.F.type_list_pop mt_pop (pv 2)))
    (pss_one (ps_set (i := 1) sc_fixed.nd rfl (Or.inl rfl) (pe_tup pa_nil)))))))
    (pss_cons (ps_expr (pe_bm PySem.F.plainAttrs_list PySem.F.slot_list_append PySem.F.type_list_append mt_append (pv 4) (pa_cons (pv 1) pa_nil)))
    (pss_cons (ps_if (pt_cmpR op_lt (pe_callB call_lenA (by rfl) Z.z_len (by decide +kernel) (pa_cons (pv 4) pa_nil)) (pe_callB call_lenA (by rfl) Z.z_len (by decide +kernel) (pa_cons (pv 3) pa_nil)) (nomark _))
    (pss_cons (ps_expr (pe_bm PySem.F.plainAttrs_list PySem.F.slot_list_append PySem.F.type_list_append mt_append (pv 2) (pa_cons (pe_tup (pa_cons (pv 3) (pa_cons (pv 4) pa_nil))) pa_nil)))
    (pss_cons (ps_expr (pe_bm PySem.F.plainAttrs_list PySem.F.slot_list_append PySem.F.type_list_append mt_append (pv 2) (pa_cons (pe_tup (pa_cons (pe_ix ix_seq (pv 3) (pe_callB call_lenA (by rfl) Z.z_len (by decide +kernel) (pa_cons (pv 4) pa_nil)) (fun _ _ => rfl)) (pa_cons pe_non pa_nil))) pa_nil)))
    (pss_one ps_continue)))
    pss_nil)
    (pss_one (ps_set (i := 1) sc_fixed.nd rfl (Or.inl rfl) (pe_callTy call_tuple_of (by rfl) Z.z_tuple (by decide +kernel) (pa_cons (pv 4) pa_nil)))))))))
    (pss_one (ps_if (pt_cmpR (op_eqU hu64) (pv 2) (pe_lst pa_nil) (nomark _))
    (pss_one (ps_ret (pv 1)))
    pss_nil)))))
    (pss_one (ps_ret (pv 1)))))
theorem rd_fixed {P : Program} {w : World} {K : PySem.W.Frag} [LT K] {mg : Str → Option Value} (Z : Fs P w K mg) {vs : List V} {H : Hp} {Q : VK} {E : XK} (h : sp_fixed K vs H Q E) : t_fixed Z { nx := fun _ H' => Q .non H', rt := Q } (L2.start N_fixed vs) H := by
  show fixedT K _ _ _
  exact fixed_run h rfl
theorem ok_fixed {P : Program} {w : World} {K : PySem.W.Frag} [LT K] {mg : Str → Option Value} {base : Heap} (Z : Fs P w K mg) : FnOk P w K mg base CX0 2 Z.a_fixed Z.d_fixed ["value"] (sp_fixed K) :=
  Z.F_fixed.ok sc_fixed (fun _ _ _ _ h => by first | exact spP_len h | exact spN_len h | exact spPen_len h) (fun cdv A outer s H vs Q E hr h => ⟨t_fixed Z, ps_fixed Z hr, rd_fixed Z h⟩)
/-! ## statement_in -/
abbrev N_statement_in : List Str := ["value", "line", "many", "one"]
theorem sc_statement_in : FnScope N_statement_in ["value"] (defScope s_statement_in) := ⟨rfl, rfl, rfl, by decide +kernel, rfl, by decide +kernel, by decide +kernel⟩
abbrev sp_statement_in (K : PySem.W.Frag) [LT K] : Sp := spP K 1 (fun ds => okV (h0 ds)) (fun ds => stF (h0 ds))
def t_statement_in {P : Program} {w : World} {K : PySem.W.Frag} [LT K] {mg : Str → Option Value} (Z : Fs P w K mg) : TS :=
  (tSeq (tPar 1 2 (tCons (tLst (tCons (tVar 0) tNil)) (tCons (tC (.int 0)) tNil)))
    (tSeq (tWhile (tTest (tOp (rNeU K) (tVar 1) (tLst tNil)))
    (tSeq (tPar 3 2 (tCons (tBM0 K "list" rPop (tVar 1)) (tCons (tOp (rAddU K) (tVar 2) (tC (.int 1))) tNil)))
    (tSeq (tIfS (tTest (tOp (rI0 fun i j => .bl (decide (j < i))) (tVar 2) (tC (.int 24))))
    (tRet (tC .non))
    tNext)
    (tIfS (tB (tCB (rIsi K) (tCons (tVar 3) (tCons (tC (.ty "str")) tNil))))
    (tIfS (tAnd (tTest (tOp (rNinV K) (tVar 3) (tC (.ref Z.a_BARE)))) (tNot (tB (tCall (sp_is_name K) [] E0 (tCons (tVar 3) tNil)))))
    (tRet (tC .non))
    tNext)
    (tIfS (tAnd (tB (tCB (rIsiT K) (tCons (tVar 3) (tCons (tTup (tCons (tC (.ty "list")) (tCons (tC (.ty "tuple")) tNil))) tNil)))) (tAnd (tTest (tOp (rEqU K) (tCB (rLenA K) (tCons (tVar 3) tNil)) (tC (.int 3)))) (tAnd (tB (tCB (rIsi K) (tCons (tOp (rIx K) (tVar 3) (tC (.int 0))) (tCons (tC (.ty "str")) tNil)))) (tTest (tOp (rInV K) (tOp (rIx K) (tVar 3) (tC (.int 0))) (tC (.ref Z.a_JOINS)))))))
    (tDrop (tBM K "list" rExtend (tVar 1) (tCons (tLst (tCons (tOp (rIx K) (tVar 3) (tC (.int 2))) (tCons (tOp (rIx K) (tVar 3) (tC (.int 1))) tNil))) tNil)))
    (tRet (tC .non)))))))
    (tRet (tCall (sp_fixed K) [] E0 (tCons (tVar 0) tNil)))))
theorem ps_statement_in {P : Program} {w : World} {K : PySem.W.Frag} [LT K] {mg : Str → Option Value} {base : Heap} (Z : Fs P w K mg) {cdv : Value} {A : Around} {outer : List Env} {s : Shared} {H : Hp} {E : XK} (hr : Room 2 (A.deeper (PyProof.Rows.envOfC "statement_in" (defScope s_statement_in) s.heap.objs.size Z.a_statement_in cdv))) :
    PSs (cxOf CX0 P w K mg base N_statement_in "statement_in" (defScope s_statement_in) Z.a_statement_in cdv A outer s H E).nox (defBody s_statement_in) (t_statement_in Z) := by
  have hu := hu_of hr
  have hu64 := hr.units
  have hu66 := hu66_of hr
  exact (pss_cons (ps_par (i := 1) (j := 2) rfl sc_statement_in.nd rfl rfl (by decide) rfl rfl (pa_cons (pe_lst (pa_cons (pv 0) pa_nil)) (pa_cons pe_int pa_nil)) rfl)
    (pss_cons (ps_while PassesOwn.never (pt_cmpR (op_neU hu64) (pv 1) (pe_lst pa_nil) (nomark _))
    (pss_cons (ps_par (i := 3) (j := 2) rfl sc_statement_in.nd rfl rfl (by decide) rfl rfl (pa_cons (pe_bm0 PySem.F.plainAttrs_list PySem.F.slot_list_pop PySem.F.type_list_pop mt_pop (pv 1)) (pa_cons (pe_op op_addU (pv 2) pe_int) pa_nil)) rfl)
    (pss_cons (ps_if (pt_cmpR op_gt (pv 2) (pe_gi rfl Z.g_MOST_PARTS) (nomark _))
    (pss_one (ps_ret pe_non))
    pss_nil)
    (pss_one (ps_if (pt_val (pe_callB call_isi (by rfl) Z.z_isinstance (by decide +kernel) (pa_cons (pv 3) (pa_cons (pe_bltn rfl Z.z_str (by decide +kernel) rfl) pa_nil))))
    (pss_one (ps_if (PW.pt (pw_and (pt_cmpR (op_ninV hu) (pv 3) (pe_gr rfl Z.g_BARE) rfl) (pw_and1 (pt_not (pt_val (pe_call (ok_is_name Z) (hr.mono (by decide)) rfl Z.m_is_name Z.F_is_name.kp Z.b_is_name .nil pass0 (pa_cons (pv 3) pa_nil)))))))
    (pss_one (ps_ret pe_non))
    pss_nil))
    (pss_one (ps_if (PW.pt (pw_and (pt_val (pe_callB call_isiT (by rfl) Z.z_isinstance (by decide +kernel) (pa_cons (pv 3) (pa_cons (pe_tup (pa_cons (pe_bltn rfl Z.z_list (by decide +kernel) rfl) (pa_cons (pe_bltn rfl Z.z_tuple (by decide +kernel) rfl) pa_nil))) pa_nil)))) (pw_and (pt_cmpR (op_eqU hu64) (pe_callB call_lenA (by rfl) Z.z_len (by decide +kernel) (pa_cons (pv 3) pa_nil)) pe_int (nomark _)) (pw_and (pt_val (pe_callB call_isi (by rfl) Z.z_isinstance (by decide +kernel) (pa_cons (pe_ix ix_seq (pv 3) pe_int (fun _ _ => rfl)) (pa_cons (pe_bltn rfl Z.z_str (by decide +kernel) rfl) pa_nil)))) (pw_and1 (pt_cmpR (op_inV hu) (pe_ix ix_seq (pv 3) pe_int (fun _ _ => rfl)) (pe_gr rfl Z.g_JOINS) rfl))))))
    (pss_one (ps_expr (pe_bm PySem.F.plainAttrs_list PySem.F.slot_list_extend PySem.F.type_list_extend mt_extend (pv 1) (pa_cons (pe_lst (pa_cons (pe_ix ix_seq (pv 3) pe_int (fun _ _ => rfl)) (pa_cons (pe_ix ix_seq (pv 3) pe_int (fun _ _ => rfl)) pa_nil))) pa_nil))))
    (pss_one (ps_ret pe_non)))))))))
    (pss_one (ps_ret (pe_call (ok_fixed Z) (hr.mono (by decide)) rfl Z.m_fixed Z.F_fixed.kp Z.b_fixed .nil pass0 (pa_cons (pv 0) pa_nil))))))
/-- a row of three with a join ahead -/
def isJoin (d : D) : Bool := match rowD d with
  | some es => (match join3 es with
    | some (j, _, _) => joinL.contains j
    | none => false)
  | none => false
theorem isJoin_of {d : D} (h : isJoin d = true) : ∃ j p q, rowD d = some [.str j, p, q] ∧ joinL.contains j = true := by
  unfold isJoin at h
  split at h
  · rename_i es hd
    split at h
    · rename_i j p q e
      exact ⟨j, p, q, by rw [hd, join3_of e], h⟩
    · cases h
  · cases h
theorem isJoin_no {d : D} (hs : isStrD d = false) (h : isJoin d = false) : stm d = false := by
  cases q : stm d with
  | false => rfl
  | true =>
    rcases stm_cases q with ⟨s, rfl, _⟩ | ⟨j, p, r, hd, hj, _⟩
    · cases hs
    · unfold isJoin at h
      rw [hd] at h
      simp only [join3] at h
      rw [hj] at h
      cases h
theorem et_join {P : Program} {w : World} {K : PySem.W.Frag} [LT K] {mg : Str → Option Value} (Z : Fs P w K mg) {σ : L2.St} {S : Wd} {x : D} {i : Nat} (h : EvD K none (tVar i) σ S x) (hm : mild x = true) (hz : sz x ≤ 1000000) :
    EvT K none (tAnd (tB (tCB (rIsiT K) (tCons (tVar i) (tCons (tTup (tCons (tC (.ty "list")) (tCons (tC (.ty "tuple")) tNil))) tNil)))) (tAnd (tTest (tOp (rEqU K) (tCB (rLenA K) (tCons (tVar i) tNil)) (tC (.int 3)))) (tAnd (tB (tCB (rIsi K) (tCons (tOp (rIx K) (tVar i) (tC (.int 0))) (tCons (tC (.ty "str")) tNil)))) (tTest (tOp (rInV K) (tOp (rIx K) (tVar i) (tC (.int 0))) (tC (.ref Z.a_JOINS))))))) σ S (isJoin x) := by
  have hk := mild_kn hm
  have t1 := et_B (ed_isi2 (EvD.h h) (kn_row hk))
  cases hr : rowD x with
  | none =>
    have e : isRowD x = false := by cases q : isRowD x with
      | false => rfl
      | true => obtain ⟨es, z⟩ := row_of q; rw [hr] at z; cases z
    rw [e] at t1
    exact EvT.is (et_andF t1) (by unfold isJoin; rw [hr])
  | some es =>
    rw [row_is hr] at t1
    have zs := row_sz hr
    have zl := szs_len es
    have ms := mild_row hr hm
    have t2 : EvT K none (tTest (tOp (rEqU K) (tCB (rLenA K) (tCons (tVar i) tNil)) (tC (.int 3)))) σ S (decide ((es.length : Int) = 3)) := et_test (ed_op (EvD.h (ed_lenR h hr (by omega))) (EvD.h ed_int) rd_eqI)
    by_cases hl : es.length = 3
    · obtain ⟨y, p, q, rfl⟩ : ∃ y p q, es = [y, p, q] := by
        match es, hl with
        | [y, p, q], _ => exact ⟨y, p, q, rfl⟩
      have at_ : EvD K none (tOp (rIx K) (tVar i) (tC (.int 0))) σ S y := ed_at h hr ed_int at0
      have my := milds_mem ms y List.mem_cons_self
      have t3 := et_str at_ (mild_kn my)
      rw [decide_eq_true (by rw [hl]; rfl)] at t2
      by_cases hy : ∃ j, y = .str j
      · obtain ⟨j, rfl⟩ := hy
        have t4 : EvT K none (tTest (tOp (rInV K) (tOp (rIx K) (tVar i) (tC (.int 0))) (tC (.ref Z.a_JOINS)))) σ S (joinL.contains j) := EvT.is (et_test (ed_op (EvD.h at_) (EvD.h (ed_c Z.t_JOINS.rp)) (rd_inT2 rfl (flat_str joinL)))) (inD_str j joinL)
        refine EvT.is (et_and t1 fun _ => et_and t2 fun _ => et_and t3 fun _ => t4) ?_
        unfold isJoin
        rw [hr]
        simp only [join3, Bool.true_and, isStrD]
      · have e : isStrD y = false := by cases y <;> first | rfl | exact absurd ⟨_, rfl⟩ hy
        rw [e] at t3
        refine EvT.is (et_and t1 fun _ => et_and t2 fun _ => et_andF t3) ?_
        unfold isJoin
        rw [hr]
        cases y <;> first | rfl | exact absurd ⟨_, rfl⟩ hy
    · rw [decide_eq_false (by omega)] at t2
      refine EvT.is (et_and t1 fun _ => et_andF t2) ?_
      unfold isJoin
      rw [hr]
      have : join3 es = none := by
        cases e : join3 es with
        | none => rfl
        | some t => obtain ⟨j, p, q⟩ := t; rw [join3_of e] at hl; exact absurd rfl hl
      simp only [this]
      rfl
/-- what is known while the line is gone through -/
structure Line (d : D) (a : List D × Nat) : Prop where
  mild : milds a.1 = true
  sz : szs a.1 ≤ 1000000
  few : a.2 ≤ 24
  is : isSt d = (a.1.all stm && decide (a.2 + sizes a.1 ≤ 24))
theorem rd_statement_in {P : Program} {w : World} {K : PySem.W.Frag} [LT K] {mg : Str → Option Value} (Z : Fs P w K mg) {vs : List V} {H : Hp} {Q : VK} {E : XK} (h : sp_statement_in K vs H Q E) : t_statement_in Z { nx := fun _ H' => Q .non H', rt := Q } (L2.start N_statement_in vs) H := by
  refine fnP1 h (by decide) fun S0 d σ G hp st k => ?_
  obtain ⟨hm, hz⟩ := (show okV d from hp)
  refine s_seq (s_par (k := 0) (k2 := 0) (P1 := fun t => t = .own [d]) (P2 := fun t => t = .dat (.int 0)) st (EvO.x (eo_lst (ea_cons (ed_var st rfl) ea_nil) (le_line (Nat.le_of_ble_eq_true rfl)))) (EvD.x ed_int) (by decide) (by decide) (by decide) (by omega) fun t1 t2 σ1 S1 e1 e2 st1 => ?_)
  subst e1 e2
  dsimp only
  have none_ : isSt d = false → stF d = .non := fun e => by unfold stF; rw [e]; rfl
  refine s_seq (s_while (Line d) (fun a => [(0, .dat d), (1, .own a.1), (2, .dat (.int (a.2 : Nat)))]) (fun a => szs a.1) (fun a => !a.1.isEmpty) ([d], 0) st1 ⟨by simp [milds, hm], by simp only [szs]; omega, Nat.zero_le _, by unfold isSt; simp [sizes]⟩ ⟨rfl, rfl, rfl, True.intro⟩ (fun a σ S ia sa => ?_) (fun a σ S ia hb sa D' hrt nx _ _ => ?_) (fun a σ S ia hb sa => ?_))
  · exact et_test (ed_op (eh_var sa rfl) (EvO.h (eo_lst ea_nil)) rd_neNil)
  · obtain ⟨L, c⟩ := a
    obtain ⟨ds, x, rfl⟩ : ∃ ds x, L = ds ++ [x] := by
      rcases List.eq_nil_or_concat L with e | ⟨ds, x, e⟩
      · rw [e] at hb; cases hb
      · exact ⟨ds, x, by rw [e, List.concat_eq_append]⟩
    obtain ⟨im, iz, ifw, iis⟩ := ia
    dsimp only at im iz ifw iis
    rw [milds_app, Bool.and_eq_true] at im
    rw [szs_app] at iz
    simp only [szs] at iz
    have mx : mild x = true := by simpa [milds] using im.2
    have px := size_pos x
    rw [sizes_app, List.all_append] at iis
    simp only [sizes, List.map_cons, List.map_nil, List.sum_cons, List.sum_nil, List.all_cons, List.all_nil, Bool.and_true, Nat.add_zero] at iis
    have back : ∀ {te : TE} {σ S l}, Sta K none S0 S0.F N_statement_in.length 0 0 σ S l → isSt d = false → tRet (tC .non) D' σ S.H := fun {te σ S l} s e => s_ret s (EvD.is ed_non (none_ e).symm) (fun v S' g t r => by rw [hrt]; exact k v S' g t r)
    refine s_seq (s_popPar (c := 1) (i := 3) (j := 2) (d2 := .int ((c + 1 : Nat) : Int)) sa rfl (by decide) (by decide) (by decide) (fun S' s' => ed_op (EvD.h (ed_var s' rfl)) (EvD.h ed_int) rd_add) fun σ2 S2 st2 => ?_)
    dsimp only
    refine s_seq (s_if st2 (et_test (ed_op (EvD.h (ed_var st2 rfl)) (EvD.h ed_int) (rd_B0 (f := fun i j => decide (j < i))))) (fun hb2 S3 st3 => ?_) (fun hb2 S3 st3 => ?_))
    · have : (24 : Int) < ((c + 1 : Nat) : Int) := of_decide_eq_true hb2
      exact back (te := tC .non) st3 (by rw [iis, decide_eq_false (by omega), Bool.and_false])
    · have c23 : ¬ (24 : Int) < ((c + 1 : Nat) : Int) := of_decide_eq_false hb2
      refine s_next ?_
      dsimp only
      have vx : EvD K none (tVar 3) σ2 S3 x := ed_var st3 rfl
      refine s_if st3 (et_str vx (mild_kn mx)) (fun hs S4 st4 => ?_) (fun hs S4 st4 => ?_)
      · obtain ⟨s, rfl⟩ := str_of hs
        have v4 : EvD K none (tVar 3) σ2 S4 (.str s) := ed_var st4 rfl
        have tst : EvT K none (tAnd (tTest (tOp (rNinV K) (tVar 3) (tC (.ref Z.a_BARE)))) (tNot (tB (tCall (sp_is_name K) [] E0 (tCons (tVar 3) tNil))))) σ2 S4 (!atomS s) := by
          refine EvT.is (et_and (et_test (ed_op (EvD.h v4) (EvD.h (ed_c Z.t_BARE.rp)) (rd_ninT2 rfl (flat_str bareL)))) fun _ => et_not (et_B (ed_call (n := 1) (pre := fun ds => kns (h0 ds)) (f := fun ds => .bl (isNameD (h0 ds))) (ds := [.str s]) (ea_cons v4 ea_nil) rfl (mild_kns mx)))) ?_
          show (!inD (.str s) (bareL.map D.str) && !isNameS s) = !atomS s
          rw [inD_str]
          unfold atomS
          cases bareL.contains s <;> rfl
        refine s_if st4 tst (fun hb3 S5 st5 => ?_) (fun hb3 S5 st5 => ?_)
        · exact back (te := tC .non) st5 (by rw [iis]; simp only [stm]; rw [show atomS s = false by simpa using hb3]; simp)
        · have at_ : atomS s = true := by simpa using hb3
          refine s_next (nx (ds, c + 1) _ S5 _ ⟨im.1, by dsimp only; omega, by dsimp only; omega, ?_⟩ ?_ st5 ⟨rfl, rfl, rfl, True.intro⟩)
          · dsimp only
            rw [iis]
            simp only [stm, at_, Bool.and_true, sizeS, sizes]
            congr 1
            exact decide_eq_decide.mpr (by omega)
          · dsimp only
            rw [szs_app]
            simp only [szs, sz]
            omega
      · have zx : sz x ≤ 1000000 := by omega
        refine s_if st4 (et_join Z (ed_var st4 rfl) mx zx) (fun hj S5 st5 => ?_) (fun hj S5 st5 => ?_)
        · obtain ⟨j, p, q, hd, hc⟩ := isJoin_of hj
          have ms := mild_row hd mx
          have zr := row_sz hd
          simp only [szs, sz] at zr
          simp only [milds, Bool.and_eq_true, Bool.and_true] at ms
          have v5 : EvD K none (tVar 3) σ2 S5 x := ed_var st5 rfl
          have lenDs := szs_len ds
          refine s_ext (ds := ds) (es := [q, p]) st5 rfl (EvO.q (eo_lst (ea_cons (ed_at v5 hd ed_int rfl) (ea_cons (ed_at v5 hd ed_int rfl) ea_nil)) (le_line (Nat.le_of_ble_eq_true rfl)))) (le_line (by simp only [List.length_cons, List.length_nil]; omega)) fun S6 st6 => ?_
          refine nx (ds ++ [q, p], c + 1) _ S6 _ ⟨?_, ?_, by dsimp only; omega, ?_⟩ ?_ st6 ⟨rfl, rfl, rfl, True.intro⟩
          · dsimp only
            rw [milds_app, im.1]
            simp [milds, ms.2.1, ms.2.2]
          · dsimp only
            rw [szs_app]
            simp only [szs]
            omega
          · dsimp only
            rw [iis, stm_join hd, size_join hd, hc, sizes_app, List.all_append]
            simp only [List.all_cons, List.all_nil, Bool.and_true, Bool.true_and, sizes, List.map_cons, List.map_nil, List.sum_cons, List.sum_nil]
            rw [Bool.and_comm (stm p)]
            congr 1
            exact decide_eq_decide.mpr (by omega)
          · dsimp only
            rw [szs_app, szs_app]
            simp only [szs]
            omega
        · exact back (te := tC .non) st5 (by rw [iis, isJoin_no (by simpa using hs) hj]; simp)
  · obtain ⟨L, c⟩ := a
    have e : L = [] := by cases L <;> first | rfl | cases hb
    subst e
    obtain ⟨_, _, ifw, iis⟩ := ia
    refine s_ret sa (EvD.is (ed_call (n := 1) (pre := fun ds => fine (h0 ds) = true ∧ sz (h0 ds) ≤ 1000000) (f := fun ds => fixD (h0 ds)) (ds := [d]) (ea_cons (ed_var sa rfl) ea_nil) rfl ⟨mild_fine d hm, hz⟩) ?_) k
    have : isSt d = true := by
      rw [iis]
      simp only [List.all_nil, Bool.true_and, sizes, List.map_nil, List.sum_nil, Nat.add_zero, decide_eq_true_eq]
      exact ifw
    show fixD d = stF d
    unfold stF
    rw [if_pos this]
theorem ok_statement_in {P : Program} {w : World} {K : PySem.W.Frag} [LT K] {mg : Str → Option Value} {base : Heap} (Z : Fs P w K mg) : FnOk P w K mg base CX0 3 Z.a_statement_in Z.d_statement_in ["value"] (sp_statement_in K) :=
  Z.F_statement_in.ok sc_statement_in (fun _ _ _ _ h => by first | exact spP_len h | exact spN_len h | exact spPen_len h) (fun cdv A outer s H vs Q E hr h => ⟨t_statement_in Z, ps_statement_in Z hr, rd_statement_in Z h⟩)
/-! ## is_statement -/
abbrev N_is_statement : List Str := ["value"]
theorem sc_is_statement : FnScope N_is_statement ["value"] (defScope s_is_statement) := ⟨rfl, rfl, rfl, by decide +kernel, rfl, by decide +kernel, by decide +kernel⟩
abbrev sp_is_statement (K : PySem.W.Frag) [LT K] : Sp := spP K 1 (fun ds => okV (h0 ds)) (fun ds => .bl (isSt (h0 ds)))
def t_is_statement {P : Program} {w : World} {K : PySem.W.Frag} [LT K] {mg : Str → Option Value} (Z : Fs P w K mg) : TS :=
  (tRet (tOp rNotN (tCall (sp_statement_in K) [] E0 (tCons (tVar 0) tNil)) (tC .non)))
theorem ps_is_statement {P : Program} {w : World} {K : PySem.W.Frag} [LT K] {mg : Str → Option Value} {base : Heap} (Z : Fs P w K mg) {cdv : Value} {A : Around} {outer : List Env} {s : Shared} {H : Hp} {E : XK} (hr : Room 3 (A.deeper (PyProof.Rows.envOfC "is_statement" (defScope s_is_statement) s.heap.objs.size Z.a_is_statement cdv))) :
    PSs (cxOf CX0 P w K mg base N_is_statement "is_statement" (defScope s_is_statement) Z.a_is_statement cdv A outer s H E).nox (defBody s_is_statement) (t_is_statement Z) := by
  have hu := hu_of hr
  have hu64 := hr.units
  have hu66 := hu66_of hr
  exact (pss_one (ps_ret (pe_cmpR op_notN (pe_call (ok_statement_in Z) (hr.mono (by decide)) rfl Z.m_statement_in Z.F_statement_in.kp Z.b_statement_in .nil pass0 (pa_cons (pv 0) pa_nil)) pe_non (nomark _))))
theorem stF_non (d : D) : isNon (stF d) = some (!isSt d) := by
  unfold stF
  cases e : isSt d with
  | false => rfl
  | true =>
    rw [if_pos rfl]
    have h : stm d = true := by
      unfold isSt at e
      rw [Bool.and_eq_true] at e
      exact e.1
    rcases stm_cases h with ⟨s, rfl, _⟩ | ⟨j, p, q, hd, _⟩
    · simp only [fixD]
      rfl
    · rw [fix_join hd]
      rfl
theorem ed_stIn {K : PySem.W.Frag} [LT K] {p : Option Addr} {te : TE} {σ : L2.St} {S : Wd} {d : D} {E : XK} (h : EvD K p te σ S d) (hp : okV d) : EvD K p (tCall (sp_statement_in K) [] E (tCons te tNil)) σ S (stF d) :=
  ed_call (n := 1) (pre := fun ds => okV (h0 ds)) (f := fun ds => stF (h0 ds)) (ds := [d]) (ea_cons h ea_nil) rfl hp
theorem rd_is_statement {P : Program} {w : World} {K : PySem.W.Frag} [LT K] {mg : Str → Option Value} (Z : Fs P w K mg) {vs : List V} {H : Hp} {Q : VK} {E : XK} (h : sp_is_statement K vs H Q E) : t_is_statement Z { nx := fun _ H' => Q .non H', rt := Q } (L2.start N_is_statement vs) H := by
  refine fnP1 h (by decide) fun S0 d σ G hp st k => ?_
  refine s_ret st (EvD.is (ed_op (EvD.h (ed_stIn (ed_var st rfl) hp)) (EvD.h ed_non) (rd_notN (stF_non d))) ?_) k
  show D.bl (!!isSt d) = D.bl (isSt d)
  rw [Bool.not_not]
theorem ok_is_statement {P : Program} {w : World} {K : PySem.W.Frag} [LT K] {mg : Str → Option Value} {base : Heap} (Z : Fs P w K mg) : FnOk P w K mg base CX0 4 Z.a_is_statement Z.d_is_statement ["value"] (sp_is_statement K) :=
  Z.F_is_statement.ok sc_is_statement (fun _ _ _ _ h => by first | exact spP_len h | exact spN_len h | exact spPen_len h) (fun cdv A outer s H vs Q E hr h => ⟨t_is_statement Z, ps_is_statement Z hr, rd_is_statement Z h⟩)
/-! ## need_statement -/
abbrev N_need_statement : List Str := ["value", "part", "found"]
theorem sc_need_statement : FnScope N_need_statement ["value", "part"] (defScope s_need_statement) := ⟨rfl, rfl, rfl, by decide +kernel, rfl, by decide +kernel, by decide +kernel⟩
def needF (ds : List D) : Option D := if isSt (h0 ds) = true then some (fixD (h0 ds)) else none
abbrev sp_need_statement (K : PySem.W.Frag) [LT K] (C : Addr) : Sp := spE K 2 (fun ds => okV (h0 ds) ∧ h1 ds = .str "statement") needF C [("part", .str "statement")]
def t_need_statement {P : Program} {w : World} {K : PySem.W.Frag} [LT K] {mg : Str → Option Value} (Z : Fs P w K mg) (E : XK) : TS :=
  (tSeq (tAsg (tCall (sp_statement_in K) [] E0 (tCons (tVar 0) tNil)) (gName 2))
    (tSeq (tIfS (tTest (tOp rIsN (tVar 2) (tC .non)))
    (tRaiseV K Z.a_PartError Z.a_BadStatement (tVar 1) E)
    tNext)
    (tRet (tVar 2))))
theorem ps_need_statement {P : Program} {w : World} {K : PySem.W.Frag} [LT K] {mg : Str → Option Value} {base : Heap} (Z : Fs P w K mg) {cdv : Value} {A : Around} {outer : List Env} {s : Shared} {H : Hp} {E : XK} (hr : Room 3 (A.deeper (PyProof.Rows.envOfC "need_statement" (defScope s_need_statement) s.heap.objs.size Z.a_need_statement cdv))) :
    PSs (cxOf (L2.CX P w) P w K mg base N_need_statement "need_statement" (defScope s_need_statement) Z.a_need_statement cdv A outer s H E) (defBody s_need_statement) (t_need_statement Z E) := by
  have hu := hu_of hr
  have hu64 := hr.units
  have hu66 := hu66_of hr
  exact (pss_cons (ps_set (i := 2) sc_need_statement.nd rfl (Or.inl rfl) (pe_call (ok_statement_in Z) (hr.mono (by decide)) rfl Z.m_statement_in Z.F_statement_in.kp Z.b_statement_in .nil pass0 (pa_cons (pv 0) pa_nil)))
    (pss_cons (ps_if (pt_cmpR op_isN (pv 2) pe_non (nomark _))
    (pss_one (ps_raiseV (k := 0) rfl Z.I_PartError Z.R_BadStatement (hr.mono (by decide)) (takes_of rfl rfl rfl rfl) rfl Z.m_BadStatement (pv 1)))
    pss_nil)
    (pss_one (ps_ret (pv 2)))))
theorem fnE2 {K : PySem.W.Frag} [LT K] {pre : List D → Prop} {f : List D → Option D} {C : Addr} {fs : List (Str × V)} {t : TS} {Ns : List Str} {vs : List V} {H : Hp} {Q : VK} {E : XK} (h : spE K 2 pre f C fs vs H Q E) (hN : 2 ≤ Ns.length)
    (body : ∀ (S0 : Wd) (d e : D) (σ : L2.St) (G : Ends), pre [d, e] → Sta K none S0 S0.F Ns.length 0 0 σ S0 [(0, .dat d), (1, .dat e)] → (∀ r v S', f [d, e] = some r → Gr K none S0 S' → S'.T ≤ S0.T + 0 → Rp K S'.F v r → G.rt v S'.H) →
      (f [d, e] = none → ∀ dx S', Gr K none S0 S' → S'.T ≤ S0.T + 0 → S'.H dx = some (.xd fs) → E (.ref C) (some dx) S'.H) → t G σ S0.H) : t { nx := fun _ H' => Q .non H', rt := Q } (L2.start Ns vs) H := by
  obtain ⟨F, ds, ok, r, hl, hp, kq, ke⟩ := h
  match ds, hl with
  | [d, e], _ =>
    have lv := r.length
    have st := sta_start (N := Ns) (M := 0) ok r (by rw [lv]; exact hN) (by show 0 + 0 ≤ _; omega)
    exact body ⟨F, H, 0⟩ d e _ _ hp st (fun x v S' hx g t rv => kq x hx v S'.F S'.H ⟨g.ff, fun b o q np n => g.hh b o q np n, g.al, g.old, ⟨g.ok.sub, fun a e => (by cases e), g.ok.nt, g.ok.tb⟩⟩ rv)
      (fun hx dx S' g t hd => ke hx dx S'.F S'.H ⟨g.ff, fun b o q np n => g.hh b o q np n, g.al, g.old, ⟨g.ok.sub, fun a e => (by cases e), g.ok.nt, g.ok.tb⟩⟩ hd)
theorem rd_need_statement {P : Program} {w : World} {K : PySem.W.Frag} [LT K] {mg : Str → Option Value} (Z : Fs P w K mg) {vs : List V} {H : Hp} {Q : VK} {E : XK} (h : sp_need_statement K Z.a_BadStatement vs H Q E) : t_need_statement Z E { nx := fun _ H' => Q .non H', rt := Q } (L2.start N_need_statement vs) H := by
  refine fnE2 h (by decide) fun S0 d e σ G hp st k1 k2 => ?_
  obtain ⟨ho, he⟩ := (show okV d ∧ e = .str "statement" from hp)
  subst he
  refine s_seq (s_dat st (ed_stIn (ed_var st rfl) ho) (by decide) fun σ1 S1 st1 => ?_)
  dsimp only
  refine s_seq (s_if st1 (et_test (ed_op (EvD.h (ed_var (i := 2) st1 rfl)) (EvD.h ed_non) (rd_isN (stF_non d)))) (fun hb S2 st2 => ?_) (fun hb S2 st2 => ?_))
  · refine s_raiseV st2 rfl Z.R_BadStatement.S Z.R_BadStatement.no fun dx S' g t hx => k2 ?_ dx S' g t hx
    show (if isSt d = true then some (fixD d) else none) = none
    rw [if_neg (by simpa using hb)]
  · refine s_next ?_
    dsimp only
    have hs : isSt d = true := by simpa using hb
    refine s_ret st2 (EvD.is (ed_var (i := 2) st2 rfl) (show stF d = fixD d from if_pos hs)) (fun v S' g t rv => k1 _ v S' ?_ g t rv)
    show (if isSt d = true then some (fixD d) else none) = some (fixD d)
    rw [if_pos hs]
theorem ok_need_statement {P : Program} {w : World} {K : PySem.W.Frag} [LT K] {mg : Str → Option Value} {base : Heap} (Z : Fs P w K mg) : FnOk P w K mg base (L2.CX P w) 4 Z.a_need_statement Z.d_need_statement ["value", "part"] (sp_need_statement K Z.a_BadStatement) :=
  FunD.ok Z.F_need_statement sc_need_statement (fun _ _ _ _ h => spE_len h) (fun cdv A outer s H vs Q E hr h => ⟨t_need_statement Z E, ps_need_statement Z hr, rd_need_statement Z h⟩)
/-! ## parts_in -/
abbrev N_parts_in : List Str := ["statement", "found", "line", "one"]
theorem sc_parts_in : FnScope N_parts_in ["statement"] (defScope s_parts_in) := ⟨rfl, rfl, rfl, by decide +kernel, rfl, by decide +kernel, by decide +kernel⟩
/-- a statement that is not too great -/
def okP (d : D) : Prop := stm d = true ∧ mild d = true ∧ sz d ≤ 1000000
abbrev sp_parts_in (K : PySem.W.Frag) [LT K] : Sp := spP K 1 (fun ds => okP (h0 ds)) (fun ds => .tup (partsS (h0 ds)))
def t_parts_in {P : Program} {w : World} {K : PySem.W.Frag} [LT K] {mg : Str → Option Value} (Z : Fs P w K mg) : TS :=
  (tSeq (tPar 1 2 (tCons (tLst tNil) (tCons (tLst (tCons (tVar 0) tNil)) tNil)))
    (tSeq (tWhile (tTest (tOp (rNeU K) (tVar 2) (tLst tNil)))
    (tSeq (tAsg (tBM0 K "list" rPop (tVar 2)) (gName 3))
    (tSeq (tDrop (tBM K "list" rAppend (tVar 1) (tCons (tVar 3) tNil)))
    (tIfS (tNot (tB (tCB (rIsi K) (tCons (tVar 3) (tCons (tC (.ty "str")) tNil)))))
    (tDrop (tBM K "list" rExtend (tVar 2) (tCons (tLst (tCons (tOp (rIx K) (tVar 3) (tC (.int 2))) (tCons (tOp (rIx K) (tVar 3) (tC (.int 1))) tNil))) tNil)))
    tNext))))
    (tRet (tCB (rTuple K) (tCons (tVar 1) tNil)))))
theorem ps_parts_in {P : Program} {w : World} {K : PySem.W.Frag} [LT K] {mg : Str → Option Value} {base : Heap} (Z : Fs P w K mg) {cdv : Value} {A : Around} {outer : List Env} {s : Shared} {H : Hp} {E : XK} (hr : Room 0 (A.deeper (PyProof.Rows.envOfC "parts_in" (defScope s_parts_in) s.heap.objs.size Z.a_parts_in cdv))) :
    PSs (cxOf CX0 P w K mg base N_parts_in "parts_in" (defScope s_parts_in) Z.a_parts_in cdv A outer s H E).nox (defBody s_parts_in) (t_parts_in Z) := by
  have hu := hu_of hr
  have hu64 := hr.units
  have hu66 := hu66_of hr
  exact (pss_cons (ps_par (i := 1) (j := 2) rfl sc_parts_in.nd rfl rfl (by decide) rfl rfl (pa_cons (pe_lst pa_nil) (pa_cons (pe_lst (pa_cons (pv 0) pa_nil)) pa_nil)) rfl)
    (pss_cons (ps_while PassesOwn.never (pt_cmpR (op_neU hu64) (pv 2) (pe_lst pa_nil) (nomark _))
    (pss_cons (ps_set (i := 3) sc_parts_in.nd rfl (Or.inl rfl) (pe_bm0 PySem.F.plainAttrs_list PySem.F.slot_list_pop PySem.F.type_list_pop mt_pop (pv 2)))
    (pss_cons (ps_expr (pe_bm PySem.F.plainAttrs_list PySem.F.slot_list_append PySem.F.type_list_append mt_append (pv 1) (pa_cons (pv 3) pa_nil)))
    (pss_one (ps_if (pt_not (pt_val (pe_callB call_isi (by rfl) Z.z_isinstance (by decide +kernel) (pa_cons (pv 3) (pa_cons (pe_bltn rfl Z.z_str (by decide +kernel) rfl) pa_nil)))))
    (pss_one (ps_expr (pe_bm PySem.F.plainAttrs_list PySem.F.slot_list_extend PySem.F.type_list_extend mt_extend (pv 2) (pa_cons (pe_lst (pa_cons (pe_ix ix_seq (pv 3) pe_int (fun _ _ => rfl)) (pa_cons (pe_ix ix_seq (pv 3) pe_int (fun _ _ => rfl)) pa_nil))) pa_nil))))
    pss_nil)))))
    (pss_one (ps_ret (pe_callTy call_tuple_of (by rfl) Z.z_tuple (by decide +kernel) (pa_cons (pv 1) pa_nil))))))
structure Gone (d : D) (a : List D × List D) : Prop where
  all : a.2.all stm = true
  mild : milds a.2 = true
  sz : szs a.2 ≤ 1000000
  is : partsS d = a.1 ++ a.2.reverse.flatMap partsS
theorem rd_parts_in {P : Program} {w : World} {K : PySem.W.Frag} [LT K] {mg : Str → Option Value} (Z : Fs P w K mg) {vs : List V} {H : Hp} {Q : VK} {E : XK} (h : sp_parts_in K vs H Q E) : t_parts_in Z { nx := fun _ H' => Q .non H', rt := Q } (L2.start N_parts_in vs) H := by
  refine fnP1 h (by decide) fun S0 d σ G hp st k => ?_
  obtain ⟨hs, hm, hz⟩ := (show okP d from hp)
  refine s_seq (s_par (k := 0) (k2 := 0) (P1 := fun t => t = .own []) (P2 := fun t => t = .own [d]) st (EvO.x (eo_lst ea_nil)) (EvO.x (eo_lst (ea_cons (ed_var st rfl) ea_nil) (le_line (Nat.le_of_ble_eq_true rfl)))) (by decide) (by decide) (by decide) (by omega) fun t1 t2 σ1 S1 e1 e2 st1 => ?_)
  subst e1 e2
  dsimp only
  have lenD : (partsS d).length ≤ 1000000 := by
    rw [parts_len hs]
    exact Nat.le_trans (size_sz _ d (Nat.le_refl _) hs) hz
  refine s_seq (s_while (Gone d) (fun a => [(1, .own a.1), (2, .own a.2)]) (fun a => szs a.2) (fun a => !a.2.isEmpty) ([], [d]) st1 ⟨by simp [hs], by simp [milds, hm], by simp only [szs]; omega, by simp⟩ ⟨rfl, rfl, True.intro⟩ (fun a σ S ia sa => ?_) (fun a σ S ia hb sa D' hrt nx _ _ => ?_) (fun a σ S ia hb sa => ?_))
  · exact et_test (ed_op (eh_var sa rfl) (EvO.h (eo_lst ea_nil)) rd_neNil)
  · obtain ⟨done, L⟩ := a
    obtain ⟨ds, x, rfl⟩ : ∃ ds x, L = ds ++ [x] := by
      rcases List.eq_nil_or_concat L with e | ⟨ds, x, e⟩
      · rw [e] at hb; cases hb
      · exact ⟨ds, x, by rw [e, List.concat_eq_append]⟩
    obtain ⟨ia, im, iz, iis⟩ := ia
    dsimp only at ia im iz iis
    rw [milds_app, Bool.and_eq_true] at im
    rw [szs_app] at iz
    simp only [szs] at iz
    have mx : mild x = true := by simpa [milds] using im.2
    rw [List.all_append, Bool.and_eq_true] at ia
    have sx : stm x = true := by simpa using ia.2
    rw [List.reverse_append, List.flatMap_append] at iis
    simp only [List.reverse_cons, List.reverse_nil, List.nil_append, List.flatMap_cons, List.flatMap_nil, List.append_nil] at iis
    have lenDone : done.length ≤ 1000000 := by
      have := congrArg List.length iis
      rw [List.length_append] at this
      omega
    refine s_seq (s_pop (i := 2) (j := 3) (ds := ds) (d := x) sa rfl (by decide) fun σ2 S2 st2 => ?_)
    dsimp only
    refine s_seq (s_app (i := 1) (ds := done) (d := x) st2 rfl (ed_var (i := 3) st2 rfl) (lt_line lenDone) fun S3 st3 => ?_)
    dsimp only
    have lenDs := szs_len ds
    refine s_if st3 (et_not (et_str (ed_var (i := 3) st3 rfl) (mild_kn mx))) (fun hj S4 st4 => ?_) (fun hj S4 st4 => ?_)
    · rcases stm_cases sx with ⟨s, rfl, _⟩ | ⟨j, p, q, hd, _, hp, hq⟩
      · cases hj
      · have ms := mild_row hd mx
        have zr := row_sz hd
        simp only [szs, sz] at zr
        simp only [milds, Bool.and_eq_true, Bool.and_true] at ms
        have v4 : EvD K none (tVar 3) σ2 S4 x := ed_var st4 rfl
        refine s_ext (i := 2) (ds := ds) (es := [q, p]) st4 rfl (EvO.q (eo_lst (ea_cons (ed_at v4 hd ed_int rfl) (ea_cons (ed_at v4 hd ed_int rfl) ea_nil)) (le_line (Nat.le_of_ble_eq_true rfl)))) (le_line (by simp only [List.length_cons, List.length_nil]; omega)) fun S6 st6 => ?_
        refine nx (done ++ [x], ds ++ [q, p]) _ S6 _ ⟨?_, ?_, ?_, ?_⟩ ?_ st6 ⟨rfl, rfl, True.intro⟩
        · dsimp only
          rw [List.all_append, ia.1]
          simp [hp, hq]
        · dsimp only
          rw [milds_app, im.1]
          simp [milds, ms.2.1, ms.2.2]
        · dsimp only
          rw [szs_app]
          simp only [szs]
          omega
        · dsimp only
          rw [iis, parts_join hd, List.reverse_append, List.flatMap_append]
          simp
        · dsimp only
          rw [szs_app, szs_app]
          simp only [szs]
          omega
    · obtain ⟨s, rfl⟩ := str_of (show isStrD x = true by simpa using hj)
      refine s_next (nx (done ++ [.str s], ds) _ S4 _ ⟨ia.1, im.1, by dsimp only; omega, ?_⟩ ?_ st4 ⟨rfl, rfl, True.intro⟩)
      · dsimp only
        rw [iis]
        simp [partsS]
      · dsimp only
        rw [szs_app]
        simp only [szs, sz]
        omega
  · obtain ⟨done, L⟩ := a
    have e : L = [] := by cases L <;> first | rfl | cases hb
    subst e
    have iis := ia.is
    simp only [List.reverse_nil, List.flatMap_nil, List.append_nil] at iis
    refine s_ret sa (EvD.is (ed_tuple (eq_var (i := 1) sa rfl)) ?_) k
    show D.tup done = .tup (partsS d)
    rw [iis]
theorem ok_parts_in {P : Program} {w : World} {K : PySem.W.Frag} [LT K] {mg : Str → Option Value} {base : Heap} (Z : Fs P w K mg) : FnOk P w K mg base CX0 1 Z.a_parts_in Z.d_parts_in ["statement"] (sp_parts_in K) :=
  Z.F_parts_in.ok sc_parts_in (fun _ _ _ _ h => by first | exact spP_len h | exact spN_len h | exact spPen_len h) (fun cdv A outer s H vs Q E hr h => ⟨t_parts_in Z, ps_parts_in Z hr, rd_parts_in Z h⟩)
/-! ## is_kind -/
abbrev N_is_kind : List Str := ["statement"]
theorem sc_is_kind : FnScope N_is_kind ["statement"] (defScope s_is_kind) := ⟨rfl, rfl, rfl, by decide +kernel, rfl, by decide +kernel, by decide +kernel⟩
abbrev sp_is_kind (K : PySem.W.Frag) [LT K] : Sp := spP K 1 (fun ds => kns (h0 ds)) (fun ds => .bl (isKind (h0 ds)))
def t_is_kind {P : Program} {w : World} {K : PySem.W.Frag} [LT K] {mg : Str → Option Value} (Z : Fs P w K mg) : TS :=
  (tRet (tAndV (tCB (rIsi K) (tCons (tVar 0) (tCons (tC (.ty "str")) tNil))) (tOp (rNinV K) (tVar 0) (tC (.ref Z.a_BARE)))))
theorem ps_is_kind {P : Program} {w : World} {K : PySem.W.Frag} [LT K] {mg : Str → Option Value} {base : Heap} (Z : Fs P w K mg) {cdv : Value} {A : Around} {outer : List Env} {s : Shared} {H : Hp} {E : XK} (hr : Room 0 (A.deeper (PyProof.Rows.envOfC "is_kind" (defScope s_is_kind) s.heap.objs.size Z.a_is_kind cdv))) :
    PSs (cxOf CX0 P w K mg base N_is_kind "is_kind" (defScope s_is_kind) Z.a_is_kind cdv A outer s H E).nox (defBody s_is_kind) (t_is_kind Z) := by
  have hu := hu_of hr
  have hu64 := hr.units
  have hu66 := hu66_of hr
  exact (pss_one (ps_ret (pe_and (pe_callB call_isi (by rfl) Z.z_isinstance (by decide +kernel) (pa_cons (pv 0) (pa_cons (pe_bltn rfl Z.z_str (by decide +kernel) rfl) pa_nil))) (pe_one (pe_cmpR (op_ninV hu) (pv 0) (pe_gr rfl Z.g_BARE) rfl)))))
theorem rd_is_kind {P : Program} {w : World} {K : PySem.W.Frag} [LT K] {mg : Str → Option Value} (Z : Fs P w K mg) {vs : List V} {H : Hp} {Q : VK} {E : XK} (h : sp_is_kind K vs H Q E) : t_is_kind Z { nx := fun _ H' => Q .non H', rt := Q } (L2.start N_is_kind vs) H := by
  refine fnP1 h (by decide) fun S0 d σ G hp st k => ?_
  obtain ⟨hk, _⟩ := (show kns d from hp)
  have t1 : EvD K none (tCB (rIsi K) (tCons (tVar 0) (tCons (tC (.ty "str")) tNil))) σ S0 (.bl (isStrD d)) := ed_isi (EvD.h (ed_var st rfl)) (kn_str hk)
  by_cases hs : ∃ s, d = .str s
  · obtain ⟨s, rfl⟩ := hs
    refine s_ret st (EvD.is (ed_and t1 fun _ => ed_op (EvD.h (ed_var st rfl)) (EvD.h (ed_c Z.t_BARE.rp)) (rd_ninT2 rfl (flat_str bareL))) ?_) k
    show D.bl (true && !inD (.str s) (bareL.map D.str)) = D.bl (isKind (.str s))
    rw [inD_str, kind_str, Bool.true_and]
  · have e : isStrD d = false := by cases d <;> first | rfl | exact absurd ⟨_, rfl⟩ hs
    rw [e] at t1
    refine s_ret st (EvD.is (ed_andF t1) ?_) k
    show D.bl false = D.bl (isKind d)
    rw [kind_no e]
theorem ok_is_kind {P : Program} {w : World} {K : PySem.W.Frag} [LT K] {mg : Str → Option Value} {base : Heap} (Z : Fs P w K mg) : FnOk P w K mg base CX0 1 Z.a_is_kind Z.d_is_kind ["statement"] (sp_is_kind K) :=
  Z.F_is_kind.ok sc_is_kind (fun _ _ _ _ h => by first | exact spP_len h | exact spN_len h | exact spPen_len h) (fun cdv A outer s H vs Q E hr h => ⟨t_is_kind Z, ps_is_kind Z hr, rd_is_kind Z h⟩)
/-! ## kinds_in -/
abbrev N_kinds_in : List Str := ["statements", "some", "statement", "part"]
theorem sc_kinds_in : FnScope N_kinds_in ["statements"] (defScope s_kinds_in) := ⟨rfl, rfl, rfl, by decide +kernel, rfl, by decide +kernel, by decide +kernel⟩
/-- a list of one statement, not of many parts -/
def okK (d : D) : Prop := ∃ e, d = .lst [e] ∧ okP e ∧ sizeS e ≤ 40
def kindsF (d : D) : D := match d with
  | .lst [e] => kindsT (partsS e)
  | _ => .non
abbrev sp_kinds_in (K : PySem.W.Frag) [LT K] : Sp := spP K 1 (fun ds => okK (h0 ds)) (fun ds => kindsF (h0 ds))
def t_kinds_in {P : Program} {w : World} {K : PySem.W.Frag} [LT K] {mg : Str → Option Value} (Z : Fs P w K mg) : TS :=
  (tSeq (tAsg (tLc2 (iList K (tVar 0)) (gName 2) tYes (iTup K (tCall (sp_parts_in K) [] E0 (tCons (tVar 2) tNil))) (gName 3) tYes (tVar 3) [2, 3] [3]) (gName 1))
    (tRet (tCB (rTuple K) (tCons (tCB rSortDS (tCons (tDc (iList K (tVar 1)) (gName 3) (tB (tCall (sp_is_kind K) [] E0 (tCons (tVar 3) tNil))) (tVar 3) (tC (.bl true)) [3]) tNil)) tNil))))
theorem ps_kinds_in {P : Program} {w : World} {K : PySem.W.Frag} [LT K] {mg : Str → Option Value} {base : Heap} (Z : Fs P w K mg) {cdv : Value} {A : Around} {outer : List Env} {s : Shared} {H : Hp} {E : XK} (hr : Room 1 (A.deeper (PyProof.Rows.envOfC "kinds_in" (defScope s_kinds_in) s.heap.objs.size Z.a_kinds_in cdv))) :
    PSs (cxOf CX0 P w K mg base N_kinds_in "kinds_in" (defScope s_kinds_in) Z.a_kinds_in cdv A outer s H E).nox (defBody s_kinds_in) (t_kinds_in Z) := by
  have hu := hu_of hr
  have hu64 := hr.units
  have hu66 := hu66_of hr
  exact (pss_cons (ps_setLc2 (i := 1) (own := [("statement", 2), ("part", 3)]) (vs1 := [3]) rfl sc_kinds_in.nd rfl rfl (sw_true rfl rfl rfl (by decide +kernel)) (pi_list (pv 0)) (blkOk_by (own := [("statement", 2), ("part", 3)]) (N := N_kinds_in) (sc := defScope s_kinds_in) (by decide +kernel)) (by decide) (fun _ _ _ _ _ => (pg_name (i := 2) sc_kinds_in.nd rfl (Or.inl rfl))) (fun _ _ _ _ _ => pts_nil) (fun _ _ _ _ _ => (pi_tup (pe_call (ok_parts_in Z) (hr.mono (by decide)) rfl Z.m_parts_in Z.F_parts_in.kp Z.b_parts_in .nil pass0 (pa_cons (pv 2) pa_nil)))) (fun _ _ _ _ _ => (pg_name (i := 3) sc_kinds_in.nd rfl (Or.inl rfl))) (fun _ _ _ _ _ => pts_nil) (fun _ _ _ _ _ => (pv 3)))
    (pss_one (ps_ret (pe_callTy call_tuple_of (by rfl) Z.z_tuple (by decide +kernel) (pa_cons (pe_callB (cr_sortDS rfl) (by rfl) Z.z_sorted (by decide +kernel) (pa_cons (pe_dc (own := [("part", 3)]) rfl sc_kinds_in.nd (pi_list (pv 1)) (blkOk_by (own := [("part", 3)]) (N := N_kinds_in) (sc := defScope s_kinds_in) (by decide +kernel)) (fun _ _ _ _ _ => (pg_name (i := 3) sc_kinds_in.nd rfl (Or.inl rfl))) (fun _ _ _ _ _ => (pts_one (pt_val (pe_call (ok_is_kind Z) (hr.mono (by decide)) rfl Z.m_is_kind Z.F_is_kind.kp Z.b_is_kind .nil pass0 (pa_cons (pv 3) pa_nil))))) (fun _ _ _ _ _ => (pv 3)) (fun _ _ _ _ _ => pe_bl)) pa_nil)) pa_nil)))))
theorem kinds_few (ds : List D) : (kindsOf ds).length ≤ ds.length := List.length_filterMap_le _ _
theorem rd_kinds_in {P : Program} {w : World} {K : PySem.W.Frag} [LT K] {mg : Str → Option Value} (Z : Fs P w K mg) {vs : List V} {H : Hp} {Q : VK} {E : XK} (h : sp_kinds_in K vs H Q E) : t_kinds_in Z { nx := fun _ H' => Q .non H', rt := Q } (L2.start N_kinds_in vs) H := by
  refine fnP1 h (by decide) fun S0 d σ G hp st k => ?_
  obtain ⟨e, rfl, hp, few⟩ := (show okK d from hp)
  have len := parts_len hp.1
  have call : ∀ {te : TE} {σ S}, EvD K none te σ S e → EvD K none (tCall (sp_parts_in K) [] E0 (tCons te tNil)) σ S (.tup (partsS e)) := fun h =>
    ed_call (n := 1) (pre := fun ds => okP (h0 ds)) (f := fun ds => .tup (partsS (h0 ds))) (ds := [e]) (ea_cons h ea_nil) rfl hp
  have lc := eo_lc2 (K := K) (ds := [e]) (i := 2) (j := 3) (vs := [2, 3]) (vs1 := [3]) (gl := fun _ => partsS e) (f := fun _ x => x) (te := tVar 3) st (es_list (ed_var (i := 0) st rfl)) (by decide) (by decide) rfl rfl
    (fun d hd B' n' σ' S' st' => by cases List.mem_singleton.mp hd; exact es_tup (call (ed_var (i := 2) st' rfl))) (fun d hd x hx B' n' σ' S' st' => ed_var (i := 3) st' rfl) (lt_line (by simp; omega))
  have lc2 := EvO.ed lc
  simp only [List.flatMap_cons, List.flatMap_nil, List.append_nil, List.map_id'] at lc2
  refine s_seq (s_dat st lc2 (by decide) fun σ1 S1 st1 => ?_)
  dsimp only
  have dc := eod_dc (K := K) (i := 3) (vs := [3]) (b := isKind) (kf := fun x => .inr (strOfD x)) (f := fun _ => .bl true) (tk := tVar 3) (tv := tC (.bl true)) (tt := tB (tCall (sp_is_kind K) [] E0 (tCons (tVar 3) tNil))) st1 (es_list (ed_var (i := 1) st1 rfl)) (by decide) rfl (fun x hx B' n' σ' S' st' => by
    have mx : kns x := by
      have : ∀ x ∈ partsS e, mild x = true := parts_mild hp.1 hp.2.1
      exact mild_kns (this x hx)
    refine ⟨et_B (ed_call (n := 1) (pre := fun ds => kns (h0 ds)) (f := fun ds => .bl (isKind (h0 ds))) (ds := [x]) (ea_cons (ed_var (i := 3) st' rfl) ea_nil) rfl mx), fun hb => ⟨?_, ed_bl⟩⟩
    refine EvD.is (ed_var (i := 3) st' rfl) ?_
    by_cases hs : ∃ s, x = .str s
    · obtain ⟨s, rfl⟩ := hs
      rfl
    · rw [kind_no (by cases x <;> first | rfl | exact absurd ⟨_, rfl⟩ hs)] at hb
      cases hb) (lt_line (by omega))
  have keys : (mkD (((partsS e).filter isKind).map fun x => ((Sum.inr (strOfD x) : Key), D.bl true))).map (·.1) = (uniq (kindsOf (partsS e))).map Sum.inr := by
    rw [mkD_keys, List.map_map]
    have : ((partsS e).filter isKind).map ((fun x => x.1) ∘ fun x => ((Sum.inr (strOfD x) : Key), D.bl true)) = (kindsOf (partsS e)).map Sum.inr := by
      rw [← (kinds_map (partsS e)).1, List.map_map]
      rfl
    rw [this]
    exact uniq_map Sum.inr (fun x y z => Sum.inr.inj z) _
  have fewK : (uniq (kindsOf (partsS e))).length < 64 := by
    have a := uniq_short (kindsOf (partsS e))
    have b := kinds_few (partsS e)
    omega
  refine s_ret st1 (EvD.is (ed_tuple (EvO.q (eo_sortDS dc.ed keys (nodup_uniq _) fewK))) ?_) k
  show D.tup ((srtS (uniq (kindsOf (partsS e)))).map D.str) = kindsT (partsS e)
  unfold kindsT
  rw [srtS_congr fun k => mem_uniq]
theorem ok_kinds_in {P : Program} {w : World} {K : PySem.W.Frag} [LT K] {mg : Str → Option Value} {base : Heap} (Z : Fs P w K mg) : FnOk P w K mg base CX0 2 Z.a_kinds_in Z.d_kinds_in ["statements"] (sp_kinds_in K) :=
  Z.F_kinds_in.ok sc_kinds_in (fun _ _ _ _ h => by first | exact spP_len h | exact spN_len h | exact spPen_len h) (fun cdv A outer s H vs Q E hr h => ⟨t_kinds_in Z, ps_kinds_in Z hr, rd_kinds_in Z h⟩)
/-! ## text_in -/
abbrev N_text_in : List Str := ["statement", "part"]
theorem sc_text_in : FnScope N_text_in ["statement"] (defScope s_text_in) := ⟨rfl, rfl, rfl, by decide +kernel, rfl, by decide +kernel, by decide +kernel⟩
abbrev sp_text_in (K : PySem.W.Frag) [LT K] : Sp := spP K 1 (fun ds => okP (h0 ds) ∧ sizeS (h0 ds) ≤ 40) (fun ds => .str (textS (h0 ds)))
def t_text_in {P : Program} {w : World} {K : PySem.W.Frag} [LT K] {mg : Str → Option Value} (Z : Fs P w K mg) : TS :=
  (tRet (tM1 (rJoin K) (tC (.str " ")) (tLc (iTup K (tCall (sp_parts_in K) [] E0 (tCons (tVar 0) tNil))) (gName 1) tYes (tIf (tB (tCB (rIsi K) (tCons (tVar 1) (tCons (tC (.ty "str")) tNil)))) (tVar 1) (tOp (rIx K) (tVar 1) (tC (.int 0)))) [1])))
theorem ps_text_in {P : Program} {w : World} {K : PySem.W.Frag} [LT K] {mg : Str → Option Value} {base : Heap} (Z : Fs P w K mg) {cdv : Value} {A : Around} {outer : List Env} {s : Shared} {H : Hp} {E : XK} (hr : Room 1 (A.deeper (PyProof.Rows.envOfC "text_in" (defScope s_text_in) s.heap.objs.size Z.a_text_in cdv))) :
    PSs (cxOf CX0 P w K mg base N_text_in "text_in" (defScope s_text_in) Z.a_text_in cdv A outer s H E).nox (defBody s_text_in) (t_text_in Z) := by
  have hu := hu_of hr
  have hu64 := hr.units
  have hu66 := hu66_of hr
  exact (pss_one (ps_ret (pe_join pe_str (pe_lc (own := [("part", 1)]) rfl sc_text_in.nd (pi_tup (pe_call (ok_parts_in Z) (hr.mono (by decide)) rfl Z.m_parts_in Z.F_parts_in.kp Z.b_parts_in .nil pass0 (pa_cons (pv 0) pa_nil))) (blkOk_by (own := [("part", 1)]) (N := N_text_in) (sc := defScope s_text_in) (by decide +kernel)) (fun _ _ _ _ _ => (pg_name (i := 1) sc_text_in.nd rfl (Or.inl rfl))) (fun _ _ _ _ _ => pts_nil) (fun _ _ _ _ _ => (pe_ifExp (pt_val (pe_callB call_isi (by rfl) Z.z_isinstance (by decide +kernel) (pa_cons (pv 1) (pa_cons (pe_bltn rfl Z.z_str (by decide +kernel) rfl) pa_nil)))) (pv 1) (pe_ix ix_seq (pv 1) pe_int (fun _ _ => rfl))))))))
/-- the comprehension's words -/
theorem words_map (f : D → Str) (ds : List D) : ((ds.filter fun _ => true).map fun x => D.str (f x)) = (ds.map f).map D.str := by
  rw [List.filter_eq_self.mpr fun _ _ => rfl, List.map_map]
  rfl
theorem ed_word {K : PySem.W.Frag} [LT K] {p : Option Addr} {σ : L2.St} {S : Wd} {x : D} {i : Nat} (h : EvD K p (tVar i) σ S x) (hs : stm x = true) (hm : mild x = true) :
    EvD K p (tIf (tB (tCB (rIsi K) (tCons (tVar i) (tCons (tC (.ty "str")) tNil)))) (tVar i) (tOp (rIx K) (tVar i) (tC (.int 0)))) σ S (.str (wordOf x)) := by
  refine ed_if (et_str h (mild_kn hm)) (fun hb => ?_) (fun hb => ?_)
  · obtain ⟨s, rfl⟩ := str_of hb
    exact h
  · rcases stm_cases hs with ⟨s, rfl, _⟩ | ⟨j, p, q, hd, _⟩
    · cases hb
    · refine EvD.is (ed_at h hd ed_int at0) ?_
      cases x <;> simp only [rowD, reduceCtorEq, Option.some.injEq] at hd <;> subst hd <;> rfl
theorem word_len {s : Str} (h : atomS s = true) : s.length ≤ 8 := by
  unfold atomS at h
  rw [Bool.or_eq_true] at h
  rcases h with h | h
  · have : (bareL.all fun s => decide (s.length ≤ 8)) = true := by decide
    have := List.all_eq_true.mp this s (by simpa using h)
    simpa using this
  · unfold isNameS at h
    simp only [Bool.and_eq_true, decide_eq_true_eq] at h
    omega
theorem word_short {x : D} (h : stm x = true) : (wordOf x).length ≤ 8 := by
  rcases stm_cases h with ⟨s, rfl, hs⟩ | ⟨j, p, q, hd, hj, _⟩
  · exact word_len hs
  · have : (joinL.all fun s => decide (s.length ≤ 8)) = true := by decide
    have := List.all_eq_true.mp this j (by simpa using hj)
    have e : wordOf x = j := by cases x <;> simp only [rowD, reduceCtorEq, Option.some.injEq] at hd <;> subst hd <;> rfl
    rw [e]
    simpa using this
theorem text_room {d : D} (h : stm d = true) (few : sizeS d ≤ 40) : (((partsS d).map wordOf).map (·.length)).sum + ((partsS d).map wordOf).length * (" " : Str).length ≤ 16777216 := by
  have one : ((" " : String) : Str).length = 1 := rfl
  rw [one]
  have sum : ∀ xs : List D, (∀ x ∈ xs, stm x = true) → ((xs.map wordOf).map (·.length)).sum ≤ xs.length * 8 := fun xs => by
    induction xs with
    | nil => exact fun _ => Nat.le_refl _
    | cons x xs ih =>
      intro hx
      have := ih fun z hz => hx z (List.mem_cons_of_mem _ hz)
      have := word_short (hx x List.mem_cons_self)
      simp only [List.map_cons, List.sum_cons, List.length_cons]
      omega
  have := sum _ (parts_stm h)
  have := parts_len h
  rw [List.length_map]
  omega
theorem rd_text_in {P : Program} {w : World} {K : PySem.W.Frag} [LT K] {mg : Str → Option Value} (Z : Fs P w K mg) {vs : List V} {H : Hp} {Q : VK} {E : XK} (h : sp_text_in K vs H Q E) : t_text_in Z { nx := fun _ H' => Q .non H', rt := Q } (L2.start N_text_in vs) H := by
  refine fnP1 h (by decide) fun S0 d σ G hp st k => ?_
  obtain ⟨hp, few⟩ := (show okP d ∧ sizeS d ≤ 40 from hp)
  have len := parts_len hp.1
  have call : EvD K none (tCall (sp_parts_in K) [] E0 (tCons (tVar 0) tNil)) σ S0 (.tup (partsS d)) := ed_call (n := 1) (pre := fun ds => okP (h0 ds)) (f := fun ds => .tup (partsS (h0 ds))) (ds := [d]) (ea_cons (ed_var st rfl) ea_nil) rfl hp
  have lc := eo_lc (K := K) (i := 1) (vs := [1]) (b := fun _ => true) (f := fun x => .str (wordOf x)) (tt := tYes) (te := tIf (tB (tCB (rIsi K) (tCons (tVar 1) (tCons (tC (.ty "str")) tNil)))) (tVar 1) (tOp (rIx K) (tVar 1) (tC (.int 0)))) st (es_tup call) (by decide) rfl (fun x hx B' n' σ' S' st' => ⟨et_yes, fun _ => ed_word (ed_var (i := 1) st' rfl) (parts_stm hp.1 x hx) (parts_mild hp.1 hp.2.1 x hx)⟩) (lt_line (by omega))
  rw [words_map] at lc
  exact s_ret st (ed_join (b := true) ed_str (EvO.q lc) (text_room hp.1 few)) k
theorem ok_text_in {P : Program} {w : World} {K : PySem.W.Frag} [LT K] {mg : Str → Option Value} {base : Heap} (Z : Fs P w K mg) : FnOk P w K mg base CX0 2 Z.a_text_in Z.d_text_in ["statement"] (sp_text_in K) :=
  Z.F_text_in.ok sc_text_in (fun _ _ _ _ h => by first | exact spP_len h | exact spN_len h | exact spPen_len h) (fun cdv A outer s H vs Q E hr h => ⟨t_text_in Z, ps_text_in Z hr, rd_text_in Z h⟩)
/-! ## parts_of -/
abbrev N_parts_of : List Str := ["statement"]
theorem sc_parts_of : FnScope N_parts_of ["statement"] (defScope s_parts_of) := ⟨rfl, rfl, rfl, by decide +kernel, rfl, by decide +kernel, by decide +kernel⟩
def parts_ofF (ds : List D) : Option D := if isSt (h0 ds) = true then some (.tup (partsS (fixD (h0 ds)))) else none
abbrev sp_parts_of (K : PySem.W.Frag) [LT K] (C : Addr) : Sp := spE K 1 (fun ds => okV (h0 ds)) parts_ofF C [("part", .str "statement")]
def t_parts_of {P : Program} {w : World} {K : PySem.W.Frag} [LT K] {mg : Str → Option Value} (Z : Fs P w K mg) (E : XK) : TS :=
  (tRet (tCall (sp_parts_in K) [] E0 (tCons (tCall (sp_need_statement K Z.a_BadStatement) [V.str "statement"] E (tCons (tVar 0) tNil)) tNil)))
theorem ps_parts_of {P : Program} {w : World} {K : PySem.W.Frag} [LT K] {mg : Str → Option Value} {base : Heap} (Z : Fs P w K mg) {cdv : Value} {A : Around} {outer : List Env} {s : Shared} {H : Hp} {E : XK} (hr : Room 4 (A.deeper (PyProof.Rows.envOfC "parts_of" (defScope s_parts_of) s.heap.objs.size Z.a_parts_of cdv))) :
    PSs (cxOf (L2.CX P w) P w K mg base N_parts_of "parts_of" (defScope s_parts_of) Z.a_parts_of cdv A outer s H E) (defBody s_parts_of) (t_parts_of Z E) := by
  have hu := hu_of hr
  have hu64 := hr.units
  have hu66 := hu66_of hr
  exact (pss_one (ps_ret (pe_call (ok_parts_in Z) (hr.mono (by decide)) rfl Z.m_parts_in Z.F_parts_in.kp Z.b_parts_in .nil pass0 (pa_cons (pe_call (ok_need_statement Z) (hr.mono (by decide)) rfl Z.m_need_statement Z.F_need_statement.kp Z.b_need_statement Z.v_need_statement (passes_call (takes_of rfl rfl rfl rfl) fun _ _ _ _ h => h) (pa_cons (pv 0) pa_nil)) pa_nil))))
mutual
theorem mild_fix : ∀ d : D, mild (fixD d) = mild d ∧ sz (fixD d) = sz d
  | .lst xs => by simp only [fixD, mild, sz, (milds_fix xs).1, (milds_fix xs).2, and_self]
  | .tup xs => by simp only [fixD, mild, sz, (milds_fix xs).1, (milds_fix xs).2, and_self]
  | .str _ => by simp only [fixD, and_self]
  | .non => by simp only [fixD, and_self]
  | .bl _ => by simp only [fixD, and_self]
  | .int _ => by simp only [fixD, and_self]
  | .dic _ => by simp only [fixD, and_self]
  | .ins _ _ => by simp only [fixD, and_self]
  | .val _ => by simp only [fixD, and_self]
theorem milds_fix : ∀ xs : List D, milds (fixDs xs) = milds xs ∧ szs (fixDs xs) = szs xs
  | [] => by simp only [fixDs, and_self]
  | x :: xs => by simp only [fixDs, milds, szs, (mild_fix x).1, (mild_fix x).2, (milds_fix xs).1, (milds_fix xs).2, and_self]
end
theorem okP_fix {d : D} (h : okV d) (hs : isSt d = true) : okP (fixD d) ∧ sizeS (fixD d) ≤ 24 := by
  unfold isSt at hs
  rw [Bool.and_eq_true, decide_eq_true_eq] at hs
  obtain ⟨a, b⟩ := fix_stm _ d (Nat.le_refl _)
  exact ⟨⟨a.trans hs.1, (mild_fix d).1.trans h.1, Nat.le_trans (Nat.le_of_eq (mild_fix d).2) h.2⟩, b ▸ hs.2⟩
theorem ed_need {K : PySem.W.Frag} [LT K] {C : Addr} {te : TE} {σ : L2.St} {S : Wd} {d : D} {E : XK} (h : EvD K none te σ S d) (hp : okV d) (hs : isSt d = true) : EvD K none (tCall (sp_need_statement K C) [V.str "statement"] E (tCons te tNil)) σ S (fixD d) :=
  ed_callED (n := 2) (pre := fun ds => okV (h0 ds) ∧ h1 ds = .str "statement") (f := needF) (ds := [d]) (dds := [.str "statement"]) (ea_cons h ea_nil) (fun F => .cons (.str _) .nil) rfl ⟨hp, rfl⟩ (if_pos hs)
theorem need_raise {K : PySem.W.Frag} [LT K] {C : Addr} {te : TE} {σ : L2.St} {S : Wd} {d : D} {E : XK} {Q : VK} (h : EvD K none te σ S d) (ok : Ok K none S) (hp : okV d) (hs : isSt d = false) (k : ∀ dx S', Gr K none S S' → S'.T ≤ S.T → S'.H dx = some (.xd [("part", .str "statement")]) → E (.ref C) (some dx) S'.H) :
    tCall (sp_need_statement K C) [V.str "statement"] E (tCons te tNil) σ S.H Q :=
  ev_raiseD (n := 2) (pre := fun ds => okV (h0 ds) ∧ h1 ds = .str "statement") (f := needF) (ds := [d]) (dds := [.str "statement"]) (ea_cons h ea_nil) ok (fun F => .cons (.str _) .nil) rfl ⟨hp, rfl⟩ (if_neg (by show ¬ isSt d = true; rw [hs]; decide)) k
theorem rd_parts_of {P : Program} {w : World} {K : PySem.W.Frag} [LT K] {mg : Str → Option Value} (Z : Fs P w K mg) {vs : List V} {H : Hp} {Q : VK} {E : XK} (h : sp_parts_of K Z.a_BadStatement vs H Q E) : t_parts_of Z E { nx := fun _ H' => Q .non H', rt := Q } (L2.start N_parts_of vs) H := by
  refine fnE1 h (by decide) fun S0 d σ G hp st k1 k2 => ?_
  by_cases hs : isSt d = true
  · obtain ⟨hP, few⟩ := okP_fix hp hs
    refine s_ret st ((ed_call (n := 1) (pre := fun ds => okP (h0 ds)) (f := fun ds => .tup (partsS (h0 ds))) (ds := [fixD d]) (ea_cons (ed_need (ed_var st rfl) hp hs) ea_nil) rfl hP)) (fun v S' g t rv => k1 _ v S' (if_pos hs) g t rv)
  · show tCall (sp_need_statement K Z.a_BadStatement) [V.str "statement"] E (tCons (tVar 0) tNil) σ S0.H _
    exact need_raise (ed_var st rfl) st.ok hp (by simpa using hs) fun dx S' g t hx => k2 (if_neg hs) dx S' g (by omega) hx
theorem ok_parts_of {P : Program} {w : World} {K : PySem.W.Frag} [LT K] {mg : Str → Option Value} {base : Heap} (Z : Fs P w K mg) : FnOk P w K mg base (L2.CX P w) 5 Z.a_parts_of Z.d_parts_of ["statement"] (sp_parts_of K Z.a_BadStatement) :=
  Fun.okX Z.F_parts_of sc_parts_of (fun _ _ _ _ h => spE_len h) (fun cdv A outer s H vs Q E hr h => ⟨t_parts_of Z E, ps_parts_of Z hr, rd_parts_of Z h⟩)
/-! ## size_of -/
abbrev N_size_of : List Str := ["statement"]
theorem sc_size_of : FnScope N_size_of ["statement"] (defScope s_size_of) := ⟨rfl, rfl, rfl, by decide +kernel, rfl, by decide +kernel, by decide +kernel⟩
def size_ofF (ds : List D) : Option D := if isSt (h0 ds) = true then some (.int (sizeS (fixD (h0 ds)) : Nat)) else none
abbrev sp_size_of (K : PySem.W.Frag) [LT K] (C : Addr) : Sp := spE K 1 (fun ds => okV (h0 ds)) size_ofF C [("part", .str "statement")]
def t_size_of {P : Program} {w : World} {K : PySem.W.Frag} [LT K] {mg : Str → Option Value} (Z : Fs P w K mg) (E : XK) : TS :=
  (tRet (tCB (rLenA K) (tCons (tCall (sp_parts_in K) [] E0 (tCons (tCall (sp_need_statement K Z.a_BadStatement) [V.str "statement"] E (tCons (tVar 0) tNil)) tNil)) tNil)))
theorem ps_size_of {P : Program} {w : World} {K : PySem.W.Frag} [LT K] {mg : Str → Option Value} {base : Heap} (Z : Fs P w K mg) {cdv : Value} {A : Around} {outer : List Env} {s : Shared} {H : Hp} {E : XK} (hr : Room 4 (A.deeper (PyProof.Rows.envOfC "size_of" (defScope s_size_of) s.heap.objs.size Z.a_size_of cdv))) :
    PSs (cxOf (L2.CX P w) P w K mg base N_size_of "size_of" (defScope s_size_of) Z.a_size_of cdv A outer s H E) (defBody s_size_of) (t_size_of Z E) := by
  have hu := hu_of hr
  have hu64 := hr.units
  have hu66 := hu66_of hr
  exact (pss_one (ps_ret (pe_callB call_lenA (by rfl) Z.z_len (by decide +kernel) (pa_cons (pe_call (ok_parts_in Z) (hr.mono (by decide)) rfl Z.m_parts_in Z.F_parts_in.kp Z.b_parts_in .nil pass0 (pa_cons (pe_call (ok_need_statement Z) (hr.mono (by decide)) rfl Z.m_need_statement Z.F_need_statement.kp Z.b_need_statement Z.v_need_statement (passes_call (takes_of rfl rfl rfl rfl) fun _ _ _ _ h => h) (pa_cons (pv 0) pa_nil)) pa_nil)) pa_nil))))
theorem rd_size_of {P : Program} {w : World} {K : PySem.W.Frag} [LT K] {mg : Str → Option Value} (Z : Fs P w K mg) {vs : List V} {H : Hp} {Q : VK} {E : XK} (h : sp_size_of K Z.a_BadStatement vs H Q E) : t_size_of Z E { nx := fun _ H' => Q .non H', rt := Q } (L2.start N_size_of vs) H := by
  refine fnE1 h (by decide) fun S0 d σ G hp st k1 k2 => ?_
  by_cases hs : isSt d = true
  · obtain ⟨hP, few⟩ := okP_fix hp hs
    refine s_ret st (EvD.is (ed_len (EvD.h (ed_call (n := 1) (pre := fun ds => okP (h0 ds)) (f := fun ds => .tup (partsS (h0 ds))) (ds := [fixD d]) (ea_cons (ed_need (ed_var st rfl) hp hs) ea_nil) rfl hP)) rl_T) (congrArg (fun n : Nat => D.int n) (parts_len hP.1))) (fun v S' g t rv => k1 _ v S' (if_pos hs) g t rv)
  · show tCall (sp_need_statement K Z.a_BadStatement) [V.str "statement"] E (tCons (tVar 0) tNil) σ S0.H _
    exact need_raise (ed_var st rfl) st.ok hp (by simpa using hs) fun dx S' g t hx => k2 (if_neg hs) dx S' g (by omega) hx
theorem ok_size_of {P : Program} {w : World} {K : PySem.W.Frag} [LT K] {mg : Str → Option Value} {base : Heap} (Z : Fs P w K mg) : FnOk P w K mg base (L2.CX P w) 5 Z.a_size_of Z.d_size_of ["statement"] (sp_size_of K Z.a_BadStatement) :=
  Fun.okX Z.F_size_of sc_size_of (fun _ _ _ _ h => spE_len h) (fun cdv A outer s H vs Q E hr h => ⟨t_size_of Z E, ps_size_of Z hr, rd_size_of Z h⟩)
/-! ## kinds_of -/
abbrev N_kinds_of : List Str := ["statement"]
theorem sc_kinds_of : FnScope N_kinds_of ["statement"] (defScope s_kinds_of) := ⟨rfl, rfl, rfl, by decide +kernel, rfl, by decide +kernel, by decide +kernel⟩
def kinds_ofF (ds : List D) : Option D := if isSt (h0 ds) = true then some (kindsT (partsS (fixD (h0 ds)))) else none
abbrev sp_kinds_of (K : PySem.W.Frag) [LT K] (C : Addr) : Sp := spE K 1 (fun ds => okV (h0 ds)) kinds_ofF C [("part", .str "statement")]
def t_kinds_of {P : Program} {w : World} {K : PySem.W.Frag} [LT K] {mg : Str → Option Value} (Z : Fs P w K mg) (E : XK) : TS :=
  (tRet (tCall (sp_kinds_in K) [] E0 (tCons (tLst (tCons (tCall (sp_need_statement K Z.a_BadStatement) [V.str "statement"] E (tCons (tVar 0) tNil)) tNil)) tNil)))
theorem ps_kinds_of {P : Program} {w : World} {K : PySem.W.Frag} [LT K] {mg : Str → Option Value} {base : Heap} (Z : Fs P w K mg) {cdv : Value} {A : Around} {outer : List Env} {s : Shared} {H : Hp} {E : XK} (hr : Room 4 (A.deeper (PyProof.Rows.envOfC "kinds_of" (defScope s_kinds_of) s.heap.objs.size Z.a_kinds_of cdv))) :
    PSs (cxOf (L2.CX P w) P w K mg base N_kinds_of "kinds_of" (defScope s_kinds_of) Z.a_kinds_of cdv A outer s H E) (defBody s_kinds_of) (t_kinds_of Z E) := by
  have hu := hu_of hr
  have hu64 := hr.units
  have hu66 := hu66_of hr
  exact (pss_one (ps_ret (pe_call (ok_kinds_in Z) (hr.mono (by decide)) rfl Z.m_kinds_in Z.F_kinds_in.kp Z.b_kinds_in .nil pass0 (pa_cons (pe_lst (pa_cons (pe_call (ok_need_statement Z) (hr.mono (by decide)) rfl Z.m_need_statement Z.F_need_statement.kp Z.b_need_statement Z.v_need_statement (passes_call (takes_of rfl rfl rfl rfl) fun _ _ _ _ h => h) (pa_cons (pv 0) pa_nil)) pa_nil)) pa_nil))))
theorem rd_kinds_of {P : Program} {w : World} {K : PySem.W.Frag} [LT K] {mg : Str → Option Value} (Z : Fs P w K mg) {vs : List V} {H : Hp} {Q : VK} {E : XK} (h : sp_kinds_of K Z.a_BadStatement vs H Q E) : t_kinds_of Z E { nx := fun _ H' => Q .non H', rt := Q } (L2.start N_kinds_of vs) H := by
  refine fnE1 h (by decide) fun S0 d σ G hp st k1 k2 => ?_
  by_cases hs : isSt d = true
  · obtain ⟨hP, few⟩ := okP_fix hp hs
    refine s_ret st (ed_call (n := 1) (pre := fun ds => okK (h0 ds)) (f := fun ds => kindsF (h0 ds)) (ds := [.lst [fixD d]]) (ea_cons (EvO.ed (eo_lst (ea_cons (ed_need (ed_var st rfl) hp hs) ea_nil) (le_line (Nat.le_of_ble_eq_true rfl)))) ea_nil) rfl ⟨_, rfl, hP, Nat.le_trans few (by decide)⟩) (fun v S' g t rv => k1 _ v S' (if_pos hs) g t rv)
  · show tCall (sp_need_statement K Z.a_BadStatement) [V.str "statement"] E (tCons (tVar 0) tNil) σ S0.H _
    exact need_raise (ed_var st rfl) st.ok hp (by simpa using hs) fun dx S' g t hx => k2 (if_neg hs) dx S' g (by omega) hx
theorem ok_kinds_of {P : Program} {w : World} {K : PySem.W.Frag} [LT K] {mg : Str → Option Value} {base : Heap} (Z : Fs P w K mg) : FnOk P w K mg base (L2.CX P w) 5 Z.a_kinds_of Z.d_kinds_of ["statement"] (sp_kinds_of K Z.a_BadStatement) :=
  Fun.okX Z.F_kinds_of sc_kinds_of (fun _ _ _ _ h => spE_len h) (fun cdv A outer s H vs Q E hr h => ⟨t_kinds_of Z E, ps_kinds_of Z hr, rd_kinds_of Z h⟩)
/-! ## statement_text -/
abbrev N_statement_text : List Str := ["statement"]
theorem sc_statement_text : FnScope N_statement_text ["statement"] (defScope s_statement_text) := ⟨rfl, rfl, rfl, by decide +kernel, rfl, by decide +kernel, by decide +kernel⟩
def statement_textF (ds : List D) : Option D := if isSt (h0 ds) = true then some (.str (textS (fixD (h0 ds)))) else none
abbrev sp_statement_text (K : PySem.W.Frag) [LT K] (C : Addr) : Sp := spE K 1 (fun ds => okV (h0 ds)) statement_textF C [("part", .str "statement")]
def t_statement_text {P : Program} {w : World} {K : PySem.W.Frag} [LT K] {mg : Str → Option Value} (Z : Fs P w K mg) (E : XK) : TS :=
  (tRet (tCall (sp_text_in K) [] E0 (tCons (tCall (sp_need_statement K Z.a_BadStatement) [V.str "statement"] E (tCons (tVar 0) tNil)) tNil)))
theorem ps_statement_text {P : Program} {w : World} {K : PySem.W.Frag} [LT K] {mg : Str → Option Value} {base : Heap} (Z : Fs P w K mg) {cdv : Value} {A : Around} {outer : List Env} {s : Shared} {H : Hp} {E : XK} (hr : Room 4 (A.deeper (PyProof.Rows.envOfC "statement_text" (defScope s_statement_text) s.heap.objs.size Z.a_statement_text cdv))) :
    PSs (cxOf (L2.CX P w) P w K mg base N_statement_text "statement_text" (defScope s_statement_text) Z.a_statement_text cdv A outer s H E) (defBody s_statement_text) (t_statement_text Z E) := by
  have hu := hu_of hr
  have hu64 := hr.units
  have hu66 := hu66_of hr
  exact (pss_one (ps_ret (pe_call (ok_text_in Z) (hr.mono (by decide)) rfl Z.m_text_in Z.F_text_in.kp Z.b_text_in .nil pass0 (pa_cons (pe_call (ok_need_statement Z) (hr.mono (by decide)) rfl Z.m_need_statement Z.F_need_statement.kp Z.b_need_statement Z.v_need_statement (passes_call (takes_of rfl rfl rfl rfl) fun _ _ _ _ h => h) (pa_cons (pv 0) pa_nil)) pa_nil))))
theorem rd_statement_text {P : Program} {w : World} {K : PySem.W.Frag} [LT K] {mg : Str → Option Value} (Z : Fs P w K mg) {vs : List V} {H : Hp} {Q : VK} {E : XK} (h : sp_statement_text K Z.a_BadStatement vs H Q E) : t_statement_text Z E { nx := fun _ H' => Q .non H', rt := Q } (L2.start N_statement_text vs) H := by
  refine fnE1 h (by decide) fun S0 d σ G hp st k1 k2 => ?_
  by_cases hs : isSt d = true
  · obtain ⟨hP, few⟩ := okP_fix hp hs
    refine s_ret st (ed_call (n := 1) (pre := fun ds => okP (h0 ds) ∧ sizeS (h0 ds) ≤ 40) (f := fun ds => .str (textS (h0 ds))) (ds := [fixD d]) (ea_cons (ed_need (ed_var st rfl) hp hs) ea_nil) rfl ⟨hP, Nat.le_trans few (by decide)⟩) (fun v S' g t rv => k1 _ v S' (if_pos hs) g t rv)
  · show tCall (sp_need_statement K Z.a_BadStatement) [V.str "statement"] E (tCons (tVar 0) tNil) σ S0.H _
    exact need_raise (ed_var st rfl) st.ok hp (by simpa using hs) fun dx S' g t hx => k2 (if_neg hs) dx S' g (by omega) hx
theorem ok_statement_text {P : Program} {w : World} {K : PySem.W.Frag} [LT K] {mg : Str → Option Value} {base : Heap} (Z : Fs P w K mg) : FnOk P w K mg base (L2.CX P w) 5 Z.a_statement_text Z.d_statement_text ["statement"] (sp_statement_text K Z.a_BadStatement) :=
  Fun.okX Z.F_statement_text sc_statement_text (fun _ _ _ _ h => spE_len h) (fun cdv A outer s H vs Q E hr h => ⟨t_statement_text Z E, ps_statement_text Z hr, rd_statement_text Z h⟩)
/-! ## _law_pen -/
abbrev N__law_pen : List Str := ["script", "cell"]
theorem sc__law_pen : FnScope N__law_pen ["script"] (defScope s__law_pen) := ⟨rfl, rfl, rfl, by decide +kernel, rfl, by decide +kernel, by decide +kernel⟩
abbrev sp__law_pen (K : PySem.W.Frag) [LT K] : Sp := spPen K
def t__law_pen {P : Program} {w : World} {K : PySem.W.Frag} [LT K] {mg : Str → Option Value} (Z : Fs P w K mg) : TS :=
  (tRet (tLst (tCons (tLc (iList K (tSl (rSlL K) (tVar 0) tNoPart (tPart (tC (.int 63))))) (gName 1) tYes (tCB rInt1 (tCons (tVar 1) tNil)) [1]) (tCons (tC (.int 0)) (tCons (tC (.int 0)) tNil)))))
theorem ps__law_pen {P : Program} {w : World} {K : PySem.W.Frag} [LT K] {mg : Str → Option Value} {base : Heap} (Z : Fs P w K mg) {cdv : Value} {A : Around} {outer : List Env} {s : Shared} {H : Hp} {E : XK} (hr : Room 0 (A.deeper (PyProof.Rows.envOfC "_law_pen" (defScope s__law_pen) s.heap.objs.size Z.a__law_pen cdv))) :
    PSs (cxOf CX0 P w K mg base N__law_pen "_law_pen" (defScope s__law_pen) Z.a__law_pen cdv A outer s H E).nox (defBody s__law_pen) (t__law_pen Z) := by
  have hu := hu_of hr
  have hu64 := hr.units
  have hu66 := hu66_of hr
  exact (pss_one (ps_ret (pe_lst (pa_cons (pe_lc (own := [("cell", 1)]) rfl sc__law_pen.nd (pi_list (pe_slice sl_list (pv 0) po_none (po_some pe_int))) (blkOk_by (own := [("cell", 1)]) (N := N__law_pen) (sc := defScope s__law_pen) (by decide +kernel)) (fun _ _ _ _ _ => (pg_name (i := 1) sc__law_pen.nd rfl (Or.inl rfl))) (fun _ _ _ _ _ => pts_nil) (fun _ _ _ _ _ => (pe_callTy call_int1 (by rfl) Z.z_int (by decide +kernel) (pa_cons (pv 1) pa_nil)))) (pa_cons pe_int (pa_cons pe_int pa_nil))))))
theorem rd__law_pen {P : Program} {w : World} {K : PySem.W.Frag} [LT K] {mg : Str → Option Value} (Z : Fs P w K mg) {vs : List V} {H : Hp} {Q : VK} {E : XK} (h : sp__law_pen K vs H Q E) : t__law_pen Z { nx := fun _ H' => Q .non H', rt := Q } (L2.start N__law_pen vs) H := by
  show penT K _ _ _
  exact pen_run h rfl
theorem ok__law_pen {P : Program} {w : World} {K : PySem.W.Frag} [LT K] {mg : Str → Option Value} {base : Heap} (Z : Fs P w K mg) : FnOk P w K mg base CX0 1 Z.a__law_pen Z.d__law_pen ["script"] (sp__law_pen K) :=
  Z.F__law_pen.ok sc__law_pen (fun _ _ _ _ h => by first | exact spP_len h | exact spN_len h | exact spPen_len h) (fun cdv A outer s H vs Q E hr h => ⟨t__law_pen Z, ps__law_pen Z hr, rd__law_pen Z h⟩)
/-! ## _law_draw -/
abbrev N__law_draw : List Str := ["pen", "many", "rest", "turn", "cell", "mixed"]
theorem sc__law_draw : FnScope N__law_draw ["pen", "many"] (defScope s__law_draw) := ⟨rfl, rfl, rfl, by decide +kernel, rfl, by decide +kernel, by decide +kernel⟩
abbrev sp__law_draw (K : PySem.W.Frag) [LT K] : Sp := spDraw K
def t__law_draw {P : Program} {w : World} {K : PySem.W.Frag} [LT K] {mg : Str → Option Value} (Z : Fs P w K mg) : TS :=
  (tSeq (tIfS (tTest (tOp (rI0 fun i j => .bl (decide (j < i))) (tOp (rIx K) (tVar 0) (tC (.int 2))) (tC (.int 0))))
    (tSeq (tAsg (tCB rInt1 (tCons (tOp (rIx K) (tVar 0) (tC (.int 2))) tNil)) (gName 2))
    (tSeq (tAsg (tOp (rI CDiv fun i j => .int (i / j)) (tVar 2) (tVar 1)) (gSub (tVar 0) (tC (.int 2)) rSetL))
    (tRet (tOp (rI (fun _ j => 0 < j) fun i j => .int (i % j)) (tCB rInt1 (tCons (tVar 2) tNil)) (tVar 1)))))
    tNext)
    (tSeq (tAsg (tOp (rIx K) (tVar 0) (tC (.int 1))) (gName 3))
    (tSeq (tAsg (tOp (rAddU K) (tVar 3) (tC (.int 1))) (gSub (tVar 0) (tC (.int 1)) rSetL))
    (tSeq (tAsg (tOp (rAddU K) (tOp rMulU (tC (.int 52711)) (tVar 3)) (tC (.int 9241))) (gName 4))
    (tSeq (tIfS (tTest (tOp (rNeU K) (tOp (rIx K) (tVar 0) (tC (.int 0))) (tLst tNil)))
    (tAsg (tOp (rIx K) (tOp (rIx K) (tVar 0) (tC (.int 0))) (tOp (rI (fun _ j => 0 < j) fun i j => .int (i % j)) (tCB rInt1 (tCons (tVar 3) tNil)) (tCB (rLenA K) (tCons (tOp (rIx K) (tVar 0) (tC (.int 0))) tNil)))) (gName 4))
    tNext)
    (tSeq (tIfS (tAnd (tTest (tOp (rI0 fun i j => .bl (decide (i < j))) (tVar 3) (tCB (rLenA K) (tCons (tOp (rIx K) (tVar 0) (tC (.int 0))) tNil)))) (tTest (tOp (rI0 fun i j => .bl (decide (j ≤ i))) (tCB rAbs (tCons (tVar 4) tNil)) (tOp (rI CPowI fun i j => .int (i ^ j.toNat)) (tC (.int 10)) (tC (.int 18))))))
    (tSeq (tAsg (tOp (rAddU K) (tOp rMulU (tC (.int 2)) (tOp (rI0 fun i j => .int (i - j)) (tCB rAbs (tCons (tVar 4) tNil)) (tOp (rI CPowI fun i j => .int (i ^ j.toNat)) (tC (.int 10)) (tC (.int 18))))) (tCB rInt1 (tCons (tOp (rI0 fun i j => .bl (decide (i < j))) (tVar 4) (tC (.int 0))) tNil))) (gName 2))
    (tSeq (tAsg (tOp (rI CDiv fun i j => .int (i / j)) (tCB rInt1 (tCons (tVar 2) tNil)) (tVar 1)) (gSub (tVar 0) (tC (.int 2)) rSetL))
    (tRet (tOp (rI (fun _ j => 0 < j) fun i j => .int (i % j)) (tCB rInt1 (tCons (tVar 2) tNil)) (tVar 1)))))
    tNext)
    (tSeq (tAsg (tOp (rI (fun _ j => 0 < j) fun i j => .int (i % j)) (tCB rInt1 (tCons (tOp (rI CPowI fun i j => .int (i ^ j.toNat)) (tOp (rAddU K) (tOp (rAddU K) (tOp (rI (fun _ j => 0 < j) fun i j => .int (i % j)) (tCB rInt1 (tCons (tVar 4) tNil)) (tC (.int 2147483549))) (tOp rMulU (tC (.int 52711)) (tVar 3))) (tC (.int 9241))) (tC (.int 5))) tNil)) (tC (.int 2147483629))) (gName 5))
    (tSeq (tAsg (tOp (rI (fun _ j => 0 < j) fun i j => .int (i % j)) (tCB rInt1 (tCons (tOp (rI CPowI fun i j => .int (i ^ j.toNat)) (tOp (rAddU K) (tOp (rAddU K) (tOp rMulU (tVar 5) (tOp (rAddU K) (tOp rMulU (tC (.int 2)) (tVar 3)) (tC (.int 6007)))) (tOp rMulU (tOp rMulU (tC (.int 41011)) (tVar 3)) (tVar 3))) (tC (.int 52711))) (tC (.int 3))) tNil)) (tC (.int 2147483587))) (gName 5))
    (tRet (tOp (rI (fun _ j => 0 < j) fun i j => .int (i % j)) (tCB rInt1 (tCons (tOp (rI CDiv fun i j => .int (i / j)) (tVar 5) (tC (.int 64))) tNil)) (tVar 1)))))))))))
theorem ps__law_draw {P : Program} {w : World} {K : PySem.W.Frag} [LT K] {mg : Str → Option Value} {base : Heap} (Z : Fs P w K mg) {cdv : Value} {A : Around} {outer : List Env} {s : Shared} {H : Hp} {E : XK} (hr : Room 0 (A.deeper (PyProof.Rows.envOfC "_law_draw" (defScope s__law_draw) s.heap.objs.size Z.a__law_draw cdv))) :
    PSs (cxOf CX0 P w K mg base N__law_draw "_law_draw" (defScope s__law_draw) Z.a__law_draw cdv A outer s H E).nox (defBody s__law_draw) (t__law_draw Z) := by
  have hu := hu_of hr
  have hu64 := hr.units
  have hu66 := hu66_of hr
  exact (pss_cons (ps_if (pt_cmpR op_gt (pe_ix ix_seq (pv 0) pe_int (fun _ _ => rfl)) pe_int (nomark _))
    (pss_cons (ps_set (i := 2) sc__law_draw.nd rfl (Or.inl rfl) (pe_callTy call_int1 (by rfl) Z.z_int (by decide +kernel) (pa_cons (pe_ix ix_seq (pv 0) pe_int (fun _ _ => rfl)) pa_nil)))
    (pss_cons (ps_asg (pe_op op_fdiv (pv 2) (pv 1)) (pg_sub (pv 0) pe_int set_list))
    (pss_one (ps_ret (pe_op op_mod (pe_callTy call_int1 (by rfl) Z.z_int (by decide +kernel) (pa_cons (pv 2) pa_nil)) (pv 1))))))
    pss_nil)
    (pss_cons (ps_set (i := 3) sc__law_draw.nd rfl (Or.inl rfl) (pe_ix ix_seq (pv 0) pe_int (fun _ _ => rfl)))
    (pss_cons (ps_asg (pe_op op_addU (pv 3) pe_int) (pg_sub (pv 0) pe_int set_list))
    (pss_cons (ps_set (i := 4) sc__law_draw.nd rfl (Or.inl rfl) (pe_op op_addU (pe_op op_mulU pe_int (pv 3)) pe_int))
    (pss_cons (ps_if (pt_cmpR (op_neU hu64) (pe_ix ix_seq (pv 0) pe_int (fun _ _ => rfl)) (pe_lst pa_nil) (nomark _))
    (pss_one (ps_set (i := 4) sc__law_draw.nd rfl (Or.inl rfl) (pe_ix ix_seq (pe_ix ix_seq (pv 0) pe_int (fun _ _ => rfl)) (pe_op op_mod (pe_callTy call_int1 (by rfl) Z.z_int (by decide +kernel) (pa_cons (pv 3) pa_nil)) (pe_callB call_lenA (by rfl) Z.z_len (by decide +kernel) (pa_cons (pe_ix ix_seq (pv 0) pe_int (fun _ _ => rfl)) pa_nil))) (fun _ _ => rfl))))
    pss_nil)
    (pss_cons (ps_if (PW.pt (pw_and (pt_cmpR op_lt (pv 3) (pe_callB call_lenA (by rfl) Z.z_len (by decide +kernel) (pa_cons (pe_ix ix_seq (pv 0) pe_int (fun _ _ => rfl)) pa_nil)) (nomark _)) (pw_and1 (pt_cmpR op_ge (pe_callB call_abs (by rfl) Z.z_abs (by decide +kernel) (pa_cons (pv 4) pa_nil)) (pe_op op_powI pe_int pe_int) (nomark _)))))
    (pss_cons (ps_set (i := 2) sc__law_draw.nd rfl (Or.inl rfl) (pe_op op_addU (pe_op op_mulU pe_int (pe_op op_sub (pe_callB call_abs (by rfl) Z.z_abs (by decide +kernel) (pa_cons (pv 4) pa_nil)) (pe_op op_powI pe_int pe_int))) (pe_callTy call_int1 (by rfl) Z.z_int (by decide +kernel) (pa_cons (pe_cmpR op_lt (pv 4) pe_int (nomark _)) pa_nil))))
    (pss_cons (ps_asg (pe_op op_fdiv (pe_callTy call_int1 (by rfl) Z.z_int (by decide +kernel) (pa_cons (pv 2) pa_nil)) (pv 1)) (pg_sub (pv 0) pe_int set_list))
    (pss_one (ps_ret (pe_op op_mod (pe_callTy call_int1 (by rfl) Z.z_int (by decide +kernel) (pa_cons (pv 2) pa_nil)) (pv 1))))))
    pss_nil)
    (pss_cons (ps_set (i := 5) sc__law_draw.nd rfl (Or.inl rfl) (pe_op op_mod (pe_callTy call_int1 (by rfl) Z.z_int (by decide +kernel) (pa_cons (pe_op op_powI (pe_op op_addU (pe_op op_addU (pe_op op_mod (pe_callTy call_int1 (by rfl) Z.z_int (by decide +kernel) (pa_cons (pv 4) pa_nil)) pe_int) (pe_op op_mulU pe_int (pv 3))) pe_int) pe_int) pa_nil)) pe_int))
    (pss_cons (ps_set (i := 5) sc__law_draw.nd rfl (Or.inl rfl) (pe_op op_mod (pe_callTy call_int1 (by rfl) Z.z_int (by decide +kernel) (pa_cons (pe_op op_powI (pe_op op_addU (pe_op op_addU (pe_op op_mulU (pv 5) (pe_op op_addU (pe_op op_mulU pe_int (pv 3)) pe_int)) (pe_op op_mulU (pe_op op_mulU pe_int (pv 3)) (pv 3))) pe_int) pe_int) pa_nil)) pe_int))
    (pss_one (ps_ret (pe_op op_mod (pe_callTy call_int1 (by rfl) Z.z_int (by decide +kernel) (pa_cons (pe_op op_fdiv (pv 5) pe_int) pa_nil)) (pv 1))))))))))))
theorem rd__law_draw {P : Program} {w : World} {K : PySem.W.Frag} [LT K] {mg : Str → Option Value} (Z : Fs P w K mg) {vs : List V} {H : Hp} {Q : VK} {E : XK} (h : sp__law_draw K vs H Q E) : t__law_draw Z { nx := fun _ H' => Q .non H', rt := Q } (L2.start N__law_draw vs) H := by
  show drawT K 52711 9241 52711 9241 6007 41011 52711 _ _ _
  exact draw_run h rfl (by decide) (by decide) (by decide) (by decide) (by decide) (by decide) (by decide)
theorem ok__law_draw {P : Program} {w : World} {K : PySem.W.Frag} [LT K] {mg : Str → Option Value} {base : Heap} (Z : Fs P w K mg) : FnOk P w K mg base CX0 1 Z.a__law_draw Z.d__law_draw ["pen", "many"] (sp__law_draw K) :=
  Z.F__law_draw.ok sc__law_draw (fun _ _ _ _ h => by first | exact spP_len h | exact spN_len h | exact spPen_len h) (fun cdv A outer s H vs Q E hr h => ⟨t__law_draw Z, ps__law_draw Z hr, rd__law_draw Z h⟩)
/-! ## _law_pick -/
abbrev N__law_pick : List Str := ["pen", "some"]
theorem sc__law_pick : FnScope N__law_pick ["pen", "some"] (defScope s__law_pick) := ⟨rfl, rfl, rfl, by decide +kernel, rfl, by decide +kernel, by decide +kernel⟩
abbrev sp__law_pick (K : PySem.W.Frag) [LT K] : Sp := spPick K
def t__law_pick {P : Program} {w : World} {K : PySem.W.Frag} [LT K] {mg : Str → Option Value} (Z : Fs P w K mg) : TS :=
  (tRet (tOp (rIx K) (tVar 1) (tCall (sp__law_draw K) [] E0 (tCons (tVar 0) (tCons (tCB (rLenA K) (tCons (tVar 1) tNil)) tNil)))))
theorem ps__law_pick {P : Program} {w : World} {K : PySem.W.Frag} [LT K] {mg : Str → Option Value} {base : Heap} (Z : Fs P w K mg) {cdv : Value} {A : Around} {outer : List Env} {s : Shared} {H : Hp} {E : XK} (hr : Room 1 (A.deeper (PyProof.Rows.envOfC "_law_pick" (defScope s__law_pick) s.heap.objs.size Z.a__law_pick cdv))) :
    PSs (cxOf CX0 P w K mg base N__law_pick "_law_pick" (defScope s__law_pick) Z.a__law_pick cdv A outer s H E).nox (defBody s__law_pick) (t__law_pick Z) := by
  have hu := hu_of hr
  have hu64 := hr.units
  have hu66 := hu66_of hr
  exact (pss_one (ps_ret (pe_ix ix_seq (pv 1) (pe_call (ok__law_draw Z) (hr.mono (by decide)) rfl Z.m__law_draw Z.F__law_draw.kp Z.b__law_draw .nil pass0 (pa_cons (pv 0) (pa_cons (pe_callB call_lenA (by rfl) Z.z_len (by decide +kernel) (pa_cons (pv 1) pa_nil)) pa_nil))) (fun _ _ => rfl))))
theorem rd__law_pick {P : Program} {w : World} {K : PySem.W.Frag} [LT K] {mg : Str → Option Value} (Z : Fs P w K mg) {vs : List V} {H : Hp} {Q : VK} {E : XK} (h : sp__law_pick K vs H Q E) : t__law_pick Z { nx := fun _ H' => Q .non H', rt := Q } (L2.start N__law_pick vs) H := by
  show pickT K _ _ _
  exact pick_run h rfl
theorem ok__law_pick {P : Program} {w : World} {K : PySem.W.Frag} [LT K] {mg : Str → Option Value} {base : Heap} (Z : Fs P w K mg) : FnOk P w K mg base CX0 2 Z.a__law_pick Z.d__law_pick ["pen", "some"] (sp__law_pick K) :=
  Z.F__law_pick.ok sc__law_pick (fun _ _ _ _ h => by first | exact spP_len h | exact spN_len h | exact spPen_len h) (fun cdv A outer s H vs Q E hr h => ⟨t__law_pick Z, ps__law_pick Z hr, rd__law_pick Z h⟩)
/-! ## _law_heard -/
abbrev N__law_heard : List Str := ["ask", "caught", "found", "error", "some", "words", "word", "is_one"]
theorem sc__law_heard : FnScope N__law_heard ["ask"] (defScope s__law_heard) := ⟨rfl, rfl, rfl, by decide +kernel, rfl, by decide +kernel, by decide +kernel⟩
def HC {P : Program} {w : World} {K : PySem.W.Frag} [LT K] {mg : Str → Option Value} (Z : Fs P w K mg) : Addr → Str → Prop := fun C w => (C = Z.a_BadStatement ∧ w = "statement")
def t__law_heard {P : Program} {w : World} {K : PySem.W.Frag} [LT K] {mg : Str → Option Value} (Z : Fs P w K mg) (f c' : Addr) (q : Str) (tl : XK → Hp → VK → Prop) : TS :=
  (tSeq (tAsg (tTup (tCons (tC .non) (tCons (tC .non) tNil))) (gTup K 2 (gCons (gName 1) (gCons (gName 2) gNil))))
    (fun En σ H => tAsk N__law_heard.length (wKeep K (.ref Z.a_PaidError) 3 (fun a _ _ => (tAsg (tVar 3) (gName 1))) (fun a cls d En σ H => ∃ C dd, cls = .ref C ∧ d = some dd ∧ Heard K C ∧ (tSeq (tIfS (tTest (tOp rIsN (tVar 1) (tC .non)))
    (tRet (tLst (tCons (tVar 2) tNil)))
    tNext)
      (tSeq (tAsg (tLst (tCons (tTup (tCons (tC (.str "statement")) (tCons (tCB (rIsP K C a dd) (tCons (tVar 1) (tCons (tC (.ref Z.a_BadStatement)) tNil))) tNil))) (tCons (tTup (tCons (tC (.str "sheet")) (tCons (tCB (rIsP K C a dd) (tCons (tVar 1) (tCons (tC (.ref Z.a_BadSheet)) tNil))) tNil))) (tCons (tTup (tCons (tC (.str "way")) (tCons (tCB (rIsP K C a dd) (tCons (tVar 1) (tCons (tC (.ref Z.a_BadWay)) tNil))) tNil))) (tCons (tTup (tCons (tC (.str "code")) (tCons (tCB (rIsP K C a dd) (tCons (tVar 1) (tCons (tC (.ref Z.a_BadCode)) tNil))) tNil))) tNil))))) (gName 4))
      (tSeq (tAsg (tOp (rAddU K) (tVar 4) (tLst (tCons (tTup (tCons (tC (.str "value")) (tCons (tCB (rIsP K C a dd) (tCons (tVar 1) (tCons (tC (.ref Z.a_BadValue)) tNil))) tNil))) (tCons (tTup (tCons (tC (.str "number")) (tCons (tCB (rIsP K C a dd) (tCons (tVar 1) (tCons (tC (.ref Z.a_BadNumber)) tNil))) tNil))) (tCons (tTup (tCons (tC (.str "paper")) (tCons (tCB (rIsP K C a dd) (tCons (tVar 1) (tCons (tC (.ref Z.a_BadPaper)) tNil))) tNil))) (tCons (tTup (tCons (tC (.str "library")) (tCons (tCB (rIsP K C a dd) (tCons (tVar 1) (tCons (tC (.ref Z.a_BadLibrary)) tNil))) tNil))) (tCons (tTup (tCons (tC (.str "misfit")) (tCons (tCB (rIsP K C a dd) (tCons (tVar 1) (tCons (tC (.ref Z.a_Misfit)) tNil))) tNil))) tNil))))))) (gName 4))
      (tSeq (tAsg (tLc (iList K (tVar 4)) (gTup K 2 (gCons (gName 6) (gCons (gName 7) gNil))) (tB (tVar 7)) (tVar 6) [6, 7]) (gName 5))
      (tSeq (tIfS (tTest (tOp (rNeU K) (tVar 5) (tLst tNil)))
    (tRet (tTup (tCons (tOp (rIx K) (tVar 5) (tC (.int 0))) (tCons (tXp a dd "part" (tVar 1)) tNil))))
    tNext)
      (fun _ _ _ => False)))))) En σ H) (fun _ _ _ _ => False) En) f c' q tl 2 { En with nx := (tSeq (tIfS (tTest (tOp rIsN (tVar 1) (tC .non))) (tRet (tLst (tCons (tVar 2) tNil))) tNext) fun _ _ _ => False) En } σ H))
theorem ps__law_heard {P : Program} {w : World} {K : PySem.W.Frag} [LT K] {mg : Str → Option Value} {base : Heap} (Z : Fs P w K mg) {cdv : Value} {A : Around} {outer : List Env} {s : Shared} {H : Hp} {f c' : Addr} {q : Str} {tl : XK → Hp → VK → Prop} (act : ∀ (W : WX) (pn : List (Addr × Obj)) (xe : Value → Shared → Prop) (E : XK) (p1 p2 : Pos), Takes ((cxOf C8.CX0 P w K mg base N__law_heard "_law_heard" (defScope s__law_heard) Z.a__law_heard cdv A outer s H C8.E0).tr pn xe) W → (∀ cls d σ' H', E cls d H' → W cls d σ' H') → PE ((cxOf C8.CX0 P w K mg base N__law_heard "_law_heard" (defScope s__law_heard) Z.a__law_heard cdv A outer s H C8.E0).tr pn xe) (.Call (.Name "ask" p1) [] [] p2) (fun σZ HZ Q => σZ[0]? = some (some (.ref f)) ∧ HZ c' = some (LamX.CodeO c' q) ∧ tl E HZ Q)) (hr : Room 0 (A.deeper (PyProof.Rows.envOfC "_law_heard" (defScope s__law_heard) s.heap.objs.size Z.a__law_heard cdv))) :
    PSs (cxOf C8.CX0 P w K mg base N__law_heard "_law_heard" (defScope s__law_heard) Z.a__law_heard cdv A outer s H C8.E0).nox (defBody s__law_heard) (t__law_heard Z f c' q tl) := by
  have hu := hu_of hr
  have hu64 := hr.units
  have hu66 := hu66_of hr
  exact (pss_cons (ps_asg (pe_tup (pa_cons pe_non (pa_cons pe_non pa_nil))) (pg_tup rfl (pgs_cons (pg_name (i := 1) sc__law_heard.nd rfl (Or.inl rfl)) (pgs_cons (pg_name (i := 2) sc__law_heard.nd rfl (Or.inl rfl)) pgs_nil))))
    (pss_try_rest (i := 3) (c := .ref Z.a_PaidError) (Wout := fun _ _ _ _ => False) (tb := fun W => tAsk N__law_heard.length W f c' q tl 2) (ts := fun a _ _ => (tAsg (tVar 3) (gName 1))) (v := (fun a cls d En σ H => ∃ C dd, cls = .ref C ∧ d = some dd ∧ Heard K C ∧ (tSeq (tIfS (tTest (tOp rIsN (tVar 1) (tC .non))) (tRet (tLst (tCons (tVar 2) tNil))) tNext) (tSeq (tAsg (tLst (tCons (tTup (tCons (tC (.str "statement")) (tCons (tCB (rIsP K C a dd) (tCons (tVar 1) (tCons (tC (.ref Z.a_BadStatement)) tNil))) tNil))) (tCons (tTup (tCons (tC (.str "sheet")) (tCons (tCB (rIsP K C a dd) (tCons (tVar 1) (tCons (tC (.ref Z.a_BadSheet)) tNil))) tNil))) (tCons (tTup (tCons (tC (.str "way")) (tCons (tCB (rIsP K C a dd) (tCons (tVar 1) (tCons (tC (.ref Z.a_BadWay)) tNil))) tNil))) (tCons (tTup (tCons (tC (.str "code")) (tCons (tCB (rIsP K C a dd) (tCons (tVar 1) (tCons (tC (.ref Z.a_BadCode)) tNil))) tNil))) tNil))))) (gName 4)) (tSeq (tAsg (tOp (rAddU K) (tVar 4) (tLst (tCons (tTup (tCons (tC (.str "value")) (tCons (tCB (rIsP K C a dd) (tCons (tVar 1) (tCons (tC (.ref Z.a_BadValue)) tNil))) tNil))) (tCons (tTup (tCons (tC (.str "number")) (tCons (tCB (rIsP K C a dd) (tCons (tVar 1) (tCons (tC (.ref Z.a_BadNumber)) tNil))) tNil))) (tCons (tTup (tCons (tC (.str "paper")) (tCons (tCB (rIsP K C a dd) (tCons (tVar 1) (tCons (tC (.ref Z.a_BadPaper)) tNil))) tNil))) (tCons (tTup (tCons (tC (.str "library")) (tCons (tCB (rIsP K C a dd) (tCons (tVar 1) (tCons (tC (.ref Z.a_BadLibrary)) tNil))) tNil))) (tCons (tTup (tCons (tC (.str "misfit")) (tCons (tCB (rIsP K C a dd) (tCons (tVar 1) (tCons (tC (.ref Z.a_Misfit)) tNil))) tNil))) tNil))))))) (gName 4)) (tSeq (tAsg (tLc (iList K (tVar 4)) (gTup K 2 (gCons (gName 6) (gCons (gName 7) gNil))) (tB (tVar 7)) (tVar 6) [6, 7]) (gName 5)) (tSeq (tIfS (tTest (tOp (rNeU K) (tVar 5) (tLst tNil))) (tRet (tTup (tCons (tOp (rIx K) (tVar 5) (tC (.int 0))) (tCons (tXp a dd "part" (tVar 1)) tNil)))) tNext) (fun _ _ _ => False)))))) En σ H)) (u := (tSeq (tIfS (tTest (tOp rIsN (tVar 1) (tC .non))) (tRet (tLst (tCons (tVar 2) tNil))) tNext) fun _ _ _ => False)) rfl rfl sc__law_heard.nd rfl rfl ⟨rfl, by decide, .inl Z.m_PaidError⟩ takes0
    (fun W pn xe tk _ => pss_ask tk (fun W2 E2 tk2 hW2 => act W2 pn xe E2 _ _ tk2 hW2) sc__law_heard.nd (i := 2) rfl (Or.inl rfl))
    (fun a oe cls d pn hz hf => (pss_one (ps_set (i := 1) sc__law_heard.nd rfl (Or.inl rfl) (pv 3))))
    (pss_cons (ps_if (pt_cmpR op_isN (pv 1) pe_non (nomark _))
    (pss_one (ps_ret (pe_lst (pa_cons (pv 2) pa_nil))))
    pss_nil) pss_dead)
    (fun a oe cls d pn hm hz hf => pss_pin hm hz hf fun C dd hH hP =>
      (pss_cons (ps_if (pt_cmpR op_isN (pv 1) pe_non (nomark _))
    (pss_one (ps_ret (pe_lst (pa_cons (pv 2) pa_nil))))
    pss_nil)
      (pss_cons (ps_set (i := 4) sc__law_heard.nd rfl (Or.inl rfl) (pe_lst (pa_cons (pe_tup (pa_cons pe_str (pa_cons (pe_callB (call_isP hH.T hP) (by rfl) Z.z_isinstance (by decide +kernel) (pa_cons (pv 1) (pa_cons (pe_gr rfl Z.m_BadStatement) pa_nil))) pa_nil))) (pa_cons (pe_tup (pa_cons pe_str (pa_cons (pe_callB (call_isP hH.T hP) (by rfl) Z.z_isinstance (by decide +kernel) (pa_cons (pv 1) (pa_cons (pe_gr rfl Z.m_BadSheet) pa_nil))) pa_nil))) (pa_cons (pe_tup (pa_cons pe_str (pa_cons (pe_callB (call_isP hH.T hP) (by rfl) Z.z_isinstance (by decide +kernel) (pa_cons (pv 1) (pa_cons (pe_gr rfl Z.m_BadWay) pa_nil))) pa_nil))) (pa_cons (pe_tup (pa_cons pe_str (pa_cons (pe_callB (call_isP hH.T hP) (by rfl) Z.z_isinstance (by decide +kernel) (pa_cons (pv 1) (pa_cons (pe_gr rfl Z.m_BadCode) pa_nil))) pa_nil))) pa_nil))))))
      (pss_cons (ps_set (i := 4) sc__law_heard.nd rfl (Or.inl rfl) (pe_op op_addU (pv 4) (pe_lst (pa_cons (pe_tup (pa_cons pe_str (pa_cons (pe_callB (call_isP hH.T hP) (by rfl) Z.z_isinstance (by decide +kernel) (pa_cons (pv 1) (pa_cons (pe_gr rfl Z.m_BadValue) pa_nil))) pa_nil))) (pa_cons (pe_tup (pa_cons pe_str (pa_cons (pe_callB (call_isP hH.T hP) (by rfl) Z.z_isinstance (by decide +kernel) (pa_cons (pv 1) (pa_cons (pe_gr rfl Z.m_BadNumber) pa_nil))) pa_nil))) (pa_cons (pe_tup (pa_cons pe_str (pa_cons (pe_callB (call_isP hH.T hP) (by rfl) Z.z_isinstance (by decide +kernel) (pa_cons (pv 1) (pa_cons (pe_gr rfl Z.m_BadPaper) pa_nil))) pa_nil))) (pa_cons (pe_tup (pa_cons pe_str (pa_cons (pe_callB (call_isP hH.T hP) (by rfl) Z.z_isinstance (by decide +kernel) (pa_cons (pv 1) (pa_cons (pe_gr rfl Z.m_BadLibrary) pa_nil))) pa_nil))) (pa_cons (pe_tup (pa_cons pe_str (pa_cons (pe_callB (call_isP hH.T hP) (by rfl) Z.z_isinstance (by decide +kernel) (pa_cons (pv 1) (pa_cons (pe_gr rfl Z.m_Misfit) pa_nil))) pa_nil))) pa_nil))))))))
      (pss_cons (ps_setLc (i := 5) (own := [("word", 6), ("is_one", 7)]) rfl sc__law_heard.nd rfl rfl (sw_true rfl rfl rfl (by decide +kernel)) (pi_list (pv 4)) (blkOk_by (own := [("word", 6), ("is_one", 7)]) (N := N__law_heard) (sc := defScope s__law_heard) (by decide +kernel)) (fun _ _ _ _ _ => (pg_tup rfl (pgs_cons (pg_name (i := 6) sc__law_heard.nd rfl (Or.inl rfl)) (pgs_cons (pg_name (i := 7) sc__law_heard.nd rfl (Or.inl rfl)) pgs_nil)))) (fun _ _ _ _ _ => (pts_one (pt_val (pv 7)))) (fun _ _ _ _ _ => (pv 6)))
      (pss_cons (ps_if (pt_cmpR (op_neU hu64) (pv 5) (pe_lst pa_nil) (nomark _))
    (pss_one (ps_ret (pe_tup (pa_cons (pe_ix ix_seq (pv 5) pe_int (fun _ _ => rfl)) (pa_cons (pe_xp hH.F hH.part hP (pv 1)) pa_nil)))))
    pss_nil)
      pss_dead))))))))
theorem rd__law_heard {P : Program} {w : World} {K : PySem.W.Frag} [LT K] {mg : Str → Option Value} (Z : Fs P w K mg) {f c' : Addr} {q : Str} {tl : XK → Hp → VK → Prop} {H : Hp} {Q : VK} (hc : H c' = some (LamX.CodeO c' q)) (h : TTh K (HC Z) tl H Q) : t__law_heard Z f c' q tl { nx := fun _ H' => Q .non H', rt := Q } (L2.start N__law_heard [.ref f]) H := by
  obtain ⟨p, S, rfl, ok, hT, ht⟩ := h
  have st0 := sta_start (N := N__law_heard) (M := 0) (ds := [.val (.ref f)]) (vs := [.ref f]) ok (.cons (.val _) .nil) (Nat.le_of_ble_eq_true rfl) (by omega)
  have two : ∀ {a b : D}, [a, b].length ≤ sizeLine := fun {a b} => by rw [sizeLine_eq]; exact Nat.le_of_ble_eq_true rfl
  have notp : ∀ {H' : Hp} {S2 : Wd} {a : Addr} {o : HO}, Gr K p S S2 → S2.H a = some o → (∀ xs, o ≠ .lst xs) → some a ≠ p := fun {H' S2 a o} g e no z => by
    obtain ⟨⟨c, t, r, cs, h1, _⟩, _⟩ := g.ok.pen a z.symm
    rw [h1] at e
    exact no _ (Option.some.inj e).symm
  have cp : some c' ≠ p := notp (H' := S.H) (Gr.refl ok) hc fun xs z => code_ne_lst c' q z.symm
  refine s_seq (s_unp2 (m := 8) (i1 := 1) (i2 := 2) st0 (ed_tup (ea_cons ed_non (ea_cons ed_non ea_nil))) (by decide) (by decide) fun σ1 S1 st1 => ?_)
  dsimp only
  have hc1 := st1.g.hh _ _ hc cp (fun ps => LamX.codeO_ne ps)
  have tS1 : S1.T ≤ S.T := st1.tn
  obtain ⟨v0, e0, r0⟩ := st1.has (0, .dat (.val (.ref f))) (get_mem rfl)
  cases (show Rp K S1.F v0 (.val (.ref f)) from r0)
  refine ⟨EH K (HC Z) p S1 Q, fun cls dd σ' H' hlen he => ?_, e0, hc1, ht S1 st1.g tS1 _ _ (fun v H' hq => ?_) (fun _ _ _ z => z)⟩
  · obtain ⟨S2, C, dx, x, word, rfl, g2, t2, rfl, rfl, hx, hC, kQ⟩ := he
    have hp : some dx ≠ p := notp (H' := S.H) (st1.g.trans g2) hx fun xs z => by cases z
    have l8 : σ'.length = 8 := hlen
    rcases hC with ⟨rfl, rfl⟩
    · refine ⟨true, Z.e_BadStatement, fun _ a ha => ?_, fun z => by cases z⟩
      refine ⟨.ref a, List.getElem?_set_self (by omega), ha, Z.a_BadStatement, dx, rfl, rfl, Z.H_BadStatement, ?_⟩
      have st3 : Sta K p S2 S2.F 8 0 0 (((σ'.set 3 (some (V.ref a))).set 1 (some (V.ref a))).set 3 none) S2 [(1, .dat (.val (.ref a)))] := by
        refine ⟨g2.ok, Gr.refl g2.ok, fun _ _ z => z, by simp [l8], by show S2.T + 0 ≤ _; omega, Nat.le_refl _, fun q hq => ?_, fun a ha b hb _ oa => ?_⟩
        · cases List.mem_singleton.mp hq
          refine ⟨.ref a, ?_, .val _⟩
          rw [List.getElem?_set_ne (show (3 : Nat) ≠ 1 by decide), List.getElem?_set_self (by simp; omega)]
        · cases List.mem_singleton.mp ha
          cases oa
      refine s_seq (s_if (b := false) st3 (et_test (ed_op (EvD.h (ed_var (i := 1) st3 rfl)) (EvD.h ed_non) rd_isRef)) (fun hb _ _ => by cases hb) (fun _ S4 st4 => ?_))
      refine s_next ?_
      dsimp only
      have row : ∀ {σ : L2.St} {S5 : Wd} {l : En} {b : Addr} {r : Bool} {w : Str}, Sta K p S2 S2.F 8 0 0 σ S5 l → get l 1 = some (.dat (.val (.ref a))) → PySem.W.kitOne K (.ref Z.a_BadStatement) (.ref b) = some r → EvD K p (tTup (tCons (tC (.str w)) (tCons (tCB (rIsP K Z.a_BadStatement a dx) (tCons (tVar 1) (tCons (tC (.ref b)) tNil))) tNil))) σ S5 (.tup [.str w, .bl r]) :=
        fun {σ S5 l b r w} st hg hk => ed_tup (ea_cons ed_str (ea_cons (ed_isP (ed_var st hg) hk (st.g.hh _ _ hx hp) hp) ea_nil)) two
      refine s_seq (s_dat (d := .lst [.tup [.str "statement", .bl true], .tup [.str "sheet", .bl false], .tup [.str "way", .bl false], .tup [.str "code", .bl false]]) st4 (EvO.ed (eo_lst (ea_cons (row st4 rfl Z.i_BadStatement_BadStatement) (ea_cons (row st4 rfl Z.i_BadStatement_BadSheet) (ea_cons (row st4 rfl Z.i_BadStatement_BadWay) (ea_cons (row st4 rfl Z.i_BadStatement_BadCode) ea_nil)))))) (by decide) fun σa0 Sa0 sa0 => ?_)
      dsimp only
      refine s_seq (s_dat (d := .lst [.tup [.str "statement", .bl true], .tup [.str "sheet", .bl false], .tup [.str "way", .bl false], .tup [.str "code", .bl false], .tup [.str "value", .bl false], .tup [.str "number", .bl false], .tup [.str "paper", .bl false], .tup [.str "library", .bl false], .tup [.str "misfit", .bl false]]) sa0 (EvO.ed (eo_catU (EvD.ql (ed_var (i := 4) sa0 rfl)) (EvO.q (eo_lst (ea_cons (row sa0 rfl Z.i_BadStatement_BadValue) (ea_cons (row sa0 rfl Z.i_BadStatement_BadNumber) (ea_cons (row sa0 rfl Z.i_BadStatement_BadPaper) (ea_cons (row sa0 rfl Z.i_BadStatement_BadLibrary) (ea_cons (row sa0 rfl Z.i_BadStatement_Misfit) ea_nil))))))) (by decide))) (by decide) fun σa1 Sa1 sa1 => ?_)
      dsimp only
      refine s_seq (s_dat (d := .lst [.str "statement"]) sa1 (EvO.ed (eo_lcP (i := 6) (j := 7) (px := fstD) (py := sndD) (b := fun d => truD (sndD d)) (f := fstD) sa1 (es_list (ed_var (i := 4) sa1 rfl)) (by decide) (by decide) (by decide) rfl rfl (fun d hd => ?_) (fun d hd B' n' σ' S' st' => ?_) (by decide))) (by decide) fun σ7 S7 st7 => ?_)
      · simp only [List.mem_cons, List.not_mem_nil, or_false] at hd
        rcases hd with rfl | rfl | rfl | rfl | rfl | rfl | rfl | rfl | rfl <;> rfl
      · refine ⟨?_, fun _ => ed_var st' rfl⟩
        simp only [List.mem_cons, List.not_mem_nil, or_false] at hd
        rcases hd with rfl | rfl | rfl | rfl | rfl | rfl | rfl | rfl | rfl <;> exact et_B (ed_var (i := 7) st' rfl)
      dsimp only
      refine s_seq (s_if (b := true) st7 (et_test (ed_op (EvD.h (ed_var (i := 5) st7 rfl)) (EvO.h (eo_lst ea_nil)) rd_neNil)) (fun _ S8 st8 => ?_) (fun hb _ _ => by cases hb))
      exact s_ret st8 (ed_tup (ea_cons (ed_ix (EvD.ql (ed_var (i := 5) st8 rfl)) ed_int rfl) (ea_cons (ed_xp (ed_var (i := 1) st8 rfl) rfl (fun _ => .str _) (st8.g.hh _ _ hx hp) hp) ea_nil)) two) (fun v' S9 g9 t9 rv' => kQ v' S9 g9 t9 rv')
  · obtain ⟨S2, d, rfl, g2, t2, rv, kQ⟩ := hq
    have st2 := Sta.rebase (M' := 0) ((st1.grow0 g2 t2).set (i := 2) (t := .dat d) (by decide) rv (fun z => by cases z)) rfl (by show S2.T + 0 ≤ _; omega)
    refine s_seq (s_if (b := true) st2 (et_test (ed_op (EvD.h (ed_var (i := 1) st2 rfl)) (EvD.h ed_non) (rd_isN rfl))) (fun _ S3 st3 => ?_) (fun hb _ _ => by cases hb))
    exact s_ret st3 (EvO.ed (eo_lst (ea_cons (ed_var (i := 2) st3 rfl) ea_nil) (by rw [sizeLine_eq]; exact Nat.le_of_ble_eq_true rfl))) (fun v' S4 g4 t4 rv' => kQ v' S4 g4 t4 rv')
theorem gives__law_heard {X : Cx} [LT X.K] (Z : Fs X.prog X.w X.K X.mg) (hr : Room 1 X.A) (q : Str) (cdv : Value) : LamX.GivesTo X N__law_heard "_law_heard" (defScope s__law_heard) Z.a__law_heard cdv (defBody s__law_heard) "ask" q (TTh X.K (HC Z)) := fun f c' s H Q tl act hc h =>
  ⟨t__law_heard Z f c' q tl, ps__law_heard Z act (hr.deeper _), rd__law_heard Z hc h⟩
/-! ## _law_parts -/
abbrev N__law_parts : List Str := ["statement"]
theorem sc__law_parts : FnScope N__law_parts ["statement"] (defScope s__law_parts) := ⟨rfl, rfl, rfl, by decide +kernel, rfl, by decide +kernel, by decide +kernel⟩
def sp__law_parts (K : PySem.W.Frag) [LT K] : Nat → Sp
  | 0 => fun _ _ _ _ => False
  | n + 1 => spP K 1 (fun ds => (∃ m, Drn (h0 ds) m ∧ m ≤ 26) ∧ dep (h0 ds) ≤ n + 1) (fun ds => .lst (partsS (h0 ds)))
theorem sp0__law_parts {K : PySem.W.Frag} [LT K] {vs : List V} {H : Hp} {Q : VK} {E : XK} (h : sp__law_parts K 0 vs H Q E) : False := h
theorem ln__law_parts {K : PySem.W.Frag} [LT K] {n : Nat} {vs : List V} {H : Hp} {Q : VK} {E : XK} (h : sp__law_parts K (n + 1) vs H Q E) : vs.length = 1 := spP_len (show spP K 1 _ _ vs H Q E from h)
def t__law_parts {P : Program} {w : World} {K : PySem.W.Frag} [LT K] {mg : Str → Option Value} (Z : Fs P w K mg) (spR : Sp) : TS :=
  (tRet (tIf (tB (tCB (rIsi K) (tCons (tVar 0) (tCons (tC (.ty "str")) tNil)))) (tLst (tCons (tVar 0) tNil)) (tOp (rAddU K) (tOp (rAddU K) (tLst (tCons (tVar 0) tNil)) (tCall spR [] E0 (tCons (tOp (rIx K) (tVar 0) (tC (.int 1))) tNil))) (tCall spR [] E0 (tCons (tOp (rIx K) (tVar 0) (tC (.int 2))) tNil)))))
theorem ps__law_parts {P : Program} {w : World} {K : PySem.W.Frag} [LT K] {mg : Str → Option Value} {base : Heap} (Z : Fs P w K mg) {cdv : Value} {A : Around} {outer : List Env} {s : Shared} {H : Hp} {E : XK} {nR : Nat} {spR : Sp} (SF : FnOk P w K mg base CX0 (0 + nR) Z.a__law_parts Z.d__law_parts ["statement"] spR) (hr : Room (0 + nR) (A.deeper (PyProof.Rows.envOfC "_law_parts" (defScope s__law_parts) s.heap.objs.size Z.a__law_parts cdv))) :
    PSs (cxOf CX0 P w K mg base N__law_parts "_law_parts" (defScope s__law_parts) Z.a__law_parts cdv A outer s H E).nox (defBody s__law_parts) (t__law_parts Z spR) := by
  have hu := hu_of hr
  have hu64 := hr.units
  have hu66 := hu66_of hr
  exact (pss_one (ps_ret (pe_ifExp (pt_val (pe_callB call_isi (by rfl) Z.z_isinstance (by decide +kernel) (pa_cons (pv 0) (pa_cons (pe_bltn rfl Z.z_str (by decide +kernel) rfl) pa_nil)))) (pe_lst (pa_cons (pv 0) pa_nil)) (pe_op op_addU (pe_op op_addU (pe_lst (pa_cons (pv 0) pa_nil)) (pe_call SF hr rfl Z.m__law_parts Z.F__law_parts.kp Z.b__law_parts .nil pass0 (pa_cons (pe_ix ix_seq (pv 0) pe_int (fun _ _ => rfl)) pa_nil))) (pe_call SF hr rfl Z.m__law_parts Z.F__law_parts.kp Z.b__law_parts .nil pass0 (pa_cons (pe_ix ix_seq (pv 0) pe_int (fun _ _ => rfl)) pa_nil))))))
theorem at2nd {x y : D} {r : List D} : atI (x :: y :: r) 1 = some y := by
  unfold atI ixN
  rw [if_pos (by decide), if_pos (by simp only [List.length_cons]; omega)]
  rfl
theorem at3rd {x y z : D} {r : List D} : atI (x :: y :: z :: r) 2 = some z := by
  unfold atI ixN
  rw [if_pos (by decide), if_pos (by simp only [List.length_cons]; omega)]
  rfl
theorem dep_pos (d : D) : 1 ≤ dep d := by
  cases d <;> simp [dep]
theorem dep_join {j : Str} {p q : D} {n : Nat} (h : dep (.tup [.str j, p, q]) ≤ n + 1) : dep p ≤ n ∧ dep q ≤ n ∧ 1 ≤ n := by
  have := dep_pos p
  simp only [dep, deps] at h
  omega
theorem rd__law_parts {P : Program} {w : World} {K : PySem.W.Frag} [LT K] {mg : Str → Option Value} (Z : Fs P w K mg) (n : Nat) {vs : List V} {H : Hp} {Q : VK} {E : XK} (h : sp__law_parts K (n + 1) vs H Q E) : t__law_parts Z (sp__law_parts K n) { nx := fun _ H' => Q .non H', rt := Q } (L2.start N__law_parts vs) H := by
  refine fnP1 (show spP K 1 (fun ds => (∃ m, Drn (h0 ds) m ∧ m ≤ 26) ∧ dep (h0 ds) ≤ n + 1) (fun ds => .lst (partsS (h0 ds))) vs H Q E from h) (by decide) fun S0 d σ G hp st k => ?_
  obtain ⟨⟨m, hD, hm⟩, hdp⟩ := (show (∃ m, Drn d m ∧ m ≤ 26) ∧ dep d ≤ n + 1 from hp)
  refine s_ret st ?_ k
  have t1 := et_str (ed_var (i := 0) st rfl) (mild_kn hD.mild)
  cases hD with
  | atom hs => exact EvD.is (ed_if (b := true) t1 (fun _ => EvO.ed (eo_lst (ea_cons (ed_var (i := 0) st rfl) ea_nil) (le_line (Nat.le_of_ble_eq_true rfl)))) (fun z => by cases z)) (by show D.lst [.str _] = D.lst (partsS (.str _)); simp only [partsS])
  | @join j p q a b hj g1 g2 =>
    obtain ⟨dp, dq, n1⟩ := dep_join hdp
    obtain ⟨n', rfl⟩ : ∃ n', n = n' + 1 := ⟨n - 1, by omega⟩
    have below : ∀ {te : TE} {x : D} {c : Nat}, EvD K none te σ S0 x → Drn x c → c ≤ 26 → dep x ≤ n' + 1 → EvD K none (tCall (sp__law_parts K (n' + 1)) [] E0 (tCons te tNil)) σ S0 (.lst (partsS x)) := fun {te x c} he hx hc hd =>
      ed_call (n := 1) (pre := fun ds => (∃ m, Drn (h0 ds) m ∧ m ≤ 26) ∧ dep (h0 ds) ≤ n' + 1) (f := fun ds => .lst (partsS (h0 ds))) (ds := [x]) (ea_cons he ea_nil) rfl ⟨⟨c, hx, hc⟩, hd⟩
    have l1 := parts_len g1.stm
    have l2 := parts_len g2.stm
    have z1 := g1.size
    have z2 := g2.size
    refine EvD.is (ed_if (b := false) t1 (fun z => by cases z) fun _ => EvO.ed (eo_catU (EvO.q (eo_catU (EvO.q (eo_lst (ea_cons (ed_var (i := 0) st rfl) ea_nil) (le_line (Nat.le_of_ble_eq_true rfl)))) (EvD.ql (below (ed_at (ed_var (i := 0) st rfl) rfl ed_int at2nd) g1 (by omega) dp)) (le_line (by simp only [List.length_singleton]; omega)))) (EvD.ql (below (ed_at (ed_var (i := 0) st rfl) rfl ed_int at3rd) g2 (by omega) dq)) (le_line (by simp only [List.length_append, List.length_singleton]; omega)))) ?_
    show D.lst _ = D.lst (partsS (.tup [.str j, p, q]))
    rw [parts_join Drn.row, List.append_assoc]
    rfl
theorem ok__law_parts {P : Program} {w : World} {K : PySem.W.Frag} [LT K] {mg : Str → Option Value} {base : Heap} (Z : Fs P w K mg) : ∀ n : Nat, FnOk P w K mg base CX0 (0 + n) Z.a__law_parts Z.d__law_parts ["statement"] (sp__law_parts K n)
  | 0 => ⟨fun vs H Q E h => (sp0__law_parts h).elim, fun A outer s H args us vs Q E hr he hb hv h => (sp0__law_parts h).elim⟩
  | n + 1 => Z.F__law_parts.ok sc__law_parts (fun _ _ _ _ h => ln__law_parts h) (fun cdv A outer s H vs Q E hr h => ⟨t__law_parts Z (sp__law_parts K n), ps__law_parts Z (ok__law_parts Z n) hr, rd__law_parts Z n h⟩)
/-! ## _law_text -/
abbrev N__law_text : List Str := ["statement", "part"]
theorem sc__law_text : FnScope N__law_text ["statement"] (defScope s__law_text) := ⟨rfl, rfl, rfl, by decide +kernel, rfl, by decide +kernel, by decide +kernel⟩
abbrev sp__law_text (K : PySem.W.Frag) [LT K] : Sp := spP K 1 (fun ds => ∃ m, Drn (h0 ds) m ∧ m ≤ 26) (fun ds => .str (textS (h0 ds)))
def t__law_text {P : Program} {w : World} {K : PySem.W.Frag} [LT K] {mg : Str → Option Value} (Z : Fs P w K mg) : TS :=
  (tRet (tM1 (rJoin K) (tC (.str " ")) (tLc (iList K (tCall (sp__law_parts K 14) [] E0 (tCons (tVar 0) tNil))) (gName 1) tYes (tIf (tB (tCB (rIsi K) (tCons (tVar 1) (tCons (tC (.ty "str")) tNil)))) (tVar 1) (tOp (rIx K) (tVar 1) (tC (.int 0)))) [1])))
theorem ps__law_text {P : Program} {w : World} {K : PySem.W.Frag} [LT K] {mg : Str → Option Value} {base : Heap} (Z : Fs P w K mg) {cdv : Value} {A : Around} {outer : List Env} {s : Shared} {H : Hp} {E : XK} (hr : Room 15 (A.deeper (PyProof.Rows.envOfC "_law_text" (defScope s__law_text) s.heap.objs.size Z.a__law_text cdv))) :
    PSs (cxOf CX0 P w K mg base N__law_text "_law_text" (defScope s__law_text) Z.a__law_text cdv A outer s H E).nox (defBody s__law_text) (t__law_text Z) := by
  have hu := hu_of hr
  have hu64 := hr.units
  have hu66 := hu66_of hr
  exact (pss_one (ps_ret (pe_join pe_str (pe_lc (own := [("part", 1)]) rfl sc__law_text.nd (pi_list (pe_call (ok__law_parts Z 14) (hr.mono (by decide)) rfl Z.m__law_parts Z.F__law_parts.kp Z.b__law_parts .nil pass0 (pa_cons (pv 0) pa_nil))) (blkOk_by (own := [("part", 1)]) (N := N__law_text) (sc := defScope s__law_text) (by decide +kernel)) (fun _ _ _ _ _ => (pg_name (i := 1) sc__law_text.nd rfl (Or.inl rfl))) (fun _ _ _ _ _ => pts_nil) (fun _ _ _ _ _ => (pe_ifExp (pt_val (pe_callB call_isi (by rfl) Z.z_isinstance (by decide +kernel) (pa_cons (pv 1) (pa_cons (pe_bltn rfl Z.z_str (by decide +kernel) rfl) pa_nil)))) (pv 1) (pe_ix ix_seq (pv 1) pe_int (fun _ _ => rfl))))))))
theorem rd__law_text {P : Program} {w : World} {K : PySem.W.Frag} [LT K] {mg : Str → Option Value} (Z : Fs P w K mg) {vs : List V} {H : Hp} {Q : VK} {E : XK} (h : sp__law_text K vs H Q E) : t__law_text Z { nx := fun _ H' => Q .non H', rt := Q } (L2.start N__law_text vs) H := by
  refine fnP1 h (by decide) fun S0 d σ G hp st k => ?_
  obtain ⟨m, hD, hm⟩ := (show ∃ m, Drn d m ∧ m ≤ 26 from hp)
  have len := parts_len hD.stm
  have z := hD.size
  have dp := hD.dep
  have call : EvD K none (tCall (sp__law_parts K 14) [] E0 (tCons (tVar 0) tNil)) σ S0 (.lst (partsS d)) :=
    ed_call (n := 1) (pre := fun ds => (∃ m, Drn (h0 ds) m ∧ m ≤ 26) ∧ dep (h0 ds) ≤ 13 + 1) (f := fun ds => .lst (partsS (h0 ds))) (ds := [d]) (ea_cons (ed_var st rfl) ea_nil) rfl ⟨⟨m, hD, hm⟩, by show dep d ≤ 14; omega⟩
  have lc := eo_lc (K := K) (i := 1) (vs := [1]) (b := fun _ => true) (f := fun x => .str (wordOf x)) (tt := tYes) (te := tIf (tB (tCB (rIsi K) (tCons (tVar 1) (tCons (tC (.ty "str")) tNil)))) (tVar 1) (tOp (rIx K) (tVar 1) (tC (.int 0)))) st (es_list call) (by decide) rfl (fun x hx B' n' σ' S' st' => ⟨et_yes, fun _ => ed_word (ed_var (i := 1) st' rfl) (parts_stm hD.stm x hx) (parts_mild hD.stm hD.mild x hx)⟩) (lt_line (by omega))
  rw [words_map] at lc
  exact s_ret st (ed_join (b := true) ed_str (EvO.q lc) (hD.text (by omega)).2) k
theorem ok__law_text {P : Program} {w : World} {K : PySem.W.Frag} [LT K] {mg : Str → Option Value} {base : Heap} (Z : Fs P w K mg) : FnOk P w K mg base CX0 16 Z.a__law_text Z.d__law_text ["statement"] (sp__law_text K) :=
  Z.F__law_text.ok sc__law_text (fun _ _ _ _ h => by first | exact spP_len h | exact spN_len h | exact spPen_len h) (fun cdv A outer s H vs Q E hr h => ⟨t__law_text Z, ps__law_text Z hr, rd__law_text Z h⟩)
/-! ## _law_statement -/
abbrev N__law_statement : List Str := ["pen", "kinds", "deep", "way"]
theorem sc__law_statement : FnScope N__law_statement ["pen", "kinds", "deep"] (defScope s__law_statement) := ⟨rfl, rfl, rfl, by decide +kernel, rfl, by decide +kernel, by decide +kernel⟩
/-- how great a statement so deep is at the most; how often is drawn -/
def zS : Nat → Nat
  | 0 => 1
  | n + 1 => 1 + 2 * zS n
def nS : Nat → Nat
  | 0 => 2
  | n + 1 => 2 + 2 * nS n
theorem zS_pos : ∀ n, 1 ≤ zS n
  | 0 => Nat.le_refl _
  | n + 1 => by show 1 ≤ 1 + 2 * zS n; omega
theorem nS_pos : ∀ n, 2 ≤ nS n
  | 0 => Nat.le_refl _
  | n + 1 => by show 2 ≤ 2 + 2 * nS n; omega
def stPre (n : Nat) (ds : List D) : Prop := ∃ (ks : List Str) (m : Int), h0 ds = .lst (ks.map D.str) ∧ ks ≠ [] ∧ ks.length ≤ 1000 ∧ (∀ s ∈ ks, s ∈ atomsL) ∧ h1 ds = .int m ∧ 0 ≤ m ∧ m ≤ (n : Int)
def DrP (z : Nat) (d : D) : Prop := ∃ c, Drn d c ∧ c ≤ z
def sp__law_statement (K : PySem.W.Frag) [LT K] : Nat → Sp
  | 0 => fun _ _ _ _ => False
  | n + 1 => spN K 2 (nS n) (stPre n) (fun _ d => DrP (zS n) d)
theorem sp0__law_statement {K : PySem.W.Frag} [LT K] {vs : List V} {H : Hp} {Q : VK} {E : XK} (h : sp__law_statement K 0 vs H Q E) : False := h
theorem ln__law_statement {K : PySem.W.Frag} [LT K] {n : Nat} {vs : List V} {H : Hp} {Q : VK} {E : XK} (h : sp__law_statement K (n + 1) vs H Q E) : vs.length = 3 := spN_len (show spN K 2 (nS n) _ _ vs H Q E from h)
def t__law_statement {P : Program} {w : World} {K : PySem.W.Frag} [LT K] {mg : Str → Option Value} (Z : Fs P w K mg) (spR : Sp) : TS :=
  (tSeq (tAsg (tCall (sp__law_draw K) [] E0 (tCons (tVar 0) (tCons (tC (.int 12)) tNil))) (gName 3))
    (tSeq (tIfS (tOr (tTest (tOp (rEqU K) (tVar 2) (tC (.int 0)))) (tTest (tOp (rI0 fun i j => .bl (decide (i < j))) (tVar 3) (tC (.int 5)))))
    (tRet (tIf (tTest (tOp (rI0 fun i j => .bl (decide (i < j))) (tVar 3) (tC (.int 11)))) (tCall (sp__law_pick K) [] E0 (tCons (tVar 0) (tCons (tVar 1) tNil))) (tCall (sp__law_pick K) [] E0 (tCons (tVar 0) (tCons (tLst (tCons (tC (.str "nothing")) (tCons (tC (.str "any")) (tCons (tC (.str "no")) (tCons (tC (.str "nothing")) tNil))))) tNil)))))
    tNext)
    (tSeq (tIfS (tTest (tOp (rEqU K) (tVar 3) (tC (.int 11))))
    (tRet (tCall (sp__law_pick K) [] E0 (tCons (tVar 0) (tCons (tLst (tCons (tC (.str "nothing")) (tCons (tC (.str "any")) (tCons (tC (.str "no")) (tCons (tC (.str "nothing")) tNil))))) tNil))))
    tNext)
    (tRet (tTup (tCons (tOp (rIx K) (tLst (tCons (tC (.str "both")) (tCons (tC (.str "gives")) (tCons (tC (.str "gives")) (tCons (tC (.str "pick")) (tCons (tC (.str "or")) (tCons (tC (.str "both")) tNil))))))) (tOp (rI0 fun i j => .int (i - j)) (tVar 3) (tC (.int 5)))) (tCons (tCall spR [] E0 (tCons (tVar 0) (tCons (tVar 1) (tCons (tOp (rI0 fun i j => .int (i - j)) (tVar 2) (tC (.int 1))) tNil)))) (tCons (tCall spR [] E0 (tCons (tVar 0) (tCons (tVar 1) (tCons (tOp (rI0 fun i j => .int (i - j)) (tVar 2) (tC (.int 1))) tNil)))) tNil))))))))
theorem ps__law_statement {P : Program} {w : World} {K : PySem.W.Frag} [LT K] {mg : Str → Option Value} {base : Heap} (Z : Fs P w K mg) {cdv : Value} {A : Around} {outer : List Env} {s : Shared} {H : Hp} {E : XK} {nR : Nat} {spR : Sp} (SF : FnOk P w K mg base CX0 (2 + nR) Z.a__law_statement Z.d__law_statement ["pen", "kinds", "deep"] spR) (hr : Room (2 + nR) (A.deeper (PyProof.Rows.envOfC "_law_statement" (defScope s__law_statement) s.heap.objs.size Z.a__law_statement cdv))) :
    PSs (cxOf CX0 P w K mg base N__law_statement "_law_statement" (defScope s__law_statement) Z.a__law_statement cdv A outer s H E).nox (defBody s__law_statement) (t__law_statement Z spR) := by
  have hu := hu_of hr
  have hu64 := hr.units
  have hu66 := hu66_of hr
  exact (pss_cons (ps_set (i := 3) sc__law_statement.nd rfl (Or.inl rfl) (pe_call (ok__law_draw Z) (hr.mono (Nat.le_trans (by decide) (Nat.le_add_right _ nR))) rfl Z.m__law_draw Z.F__law_draw.kp Z.b__law_draw .nil pass0 (pa_cons (pv 0) (pa_cons pe_int pa_nil))))
    (pss_cons (ps_if (PW.pt (pw_or (pt_cmpR (op_eqU hu64) (pv 2) pe_int (nomark _)) (pw_or1 (pt_cmpR op_lt (pv 3) pe_int (nomark _)))))
    (pss_one (ps_ret (pe_ifExp (pt_cmpR op_lt (pv 3) pe_int (nomark _)) (pe_call (ok__law_pick Z) (hr.mono (Nat.le_trans (by decide) (Nat.le_add_right _ nR))) rfl Z.m__law_pick Z.F__law_pick.kp Z.b__law_pick .nil pass0 (pa_cons (pv 0) (pa_cons (pv 1) pa_nil))) (pe_call (ok__law_pick Z) (hr.mono (Nat.le_trans (by decide) (Nat.le_add_right _ nR))) rfl Z.m__law_pick Z.F__law_pick.kp Z.b__law_pick .nil pass0 (pa_cons (pv 0) (pa_cons (pe_lst (pa_cons pe_str (pa_cons pe_str (pa_cons pe_str (pa_cons pe_str pa_nil))))) pa_nil))))))
    pss_nil)
    (pss_cons (ps_if (pt_cmpR (op_eqU hu64) (pv 3) pe_int (nomark _))
    (pss_one (ps_ret (pe_call (ok__law_pick Z) (hr.mono (Nat.le_trans (by decide) (Nat.le_add_right _ nR))) rfl Z.m__law_pick Z.F__law_pick.kp Z.b__law_pick .nil pass0 (pa_cons (pv 0) (pa_cons (pe_lst (pa_cons pe_str (pa_cons pe_str (pa_cons pe_str (pa_cons pe_str pa_nil))))) pa_nil)))))
    pss_nil)
    (pss_one (ps_ret (pe_tup (pa_cons (pe_ix ix_seq (pe_lst (pa_cons pe_str (pa_cons pe_str (pa_cons pe_str (pa_cons pe_str (pa_cons pe_str (pa_cons pe_str pa_nil))))))) (pe_op op_sub (pv 3) pe_int) (fun _ _ => rfl)) (pa_cons (pe_call SF hr rfl Z.m__law_statement Z.F__law_statement.kp Z.b__law_statement .nil pass0 (pa_cons (pv 0) (pa_cons (pv 1) (pa_cons (pe_op op_sub (pv 2) pe_int) pa_nil)))) (pa_cons (pe_call SF hr rfl Z.m__law_statement Z.F__law_statement.kp Z.b__law_statement .nil pass0 (pa_cons (pv 0) (pa_cons (pv 1) (pa_cons (pe_op op_sub (pv 2) pe_int) pa_nil)))) pa_nil)))))))))
theorem en_draw {K : PySem.W.Frag} [LT K] {a : Addr} {te : TE} {σ : L2.St} {S : Wd} {k : Int} (hv : EvV K (some a) te σ S (.ref a)) (h1 : 1 ≤ k) (h2 : k ≤ 1000000) : EvN K (some a) (tCall (sp__law_draw K) [] E0 (tCons te (tCons (tC (.int k)) tNil))) σ S 1 (fun d => ∃ r : Int, d = .int r ∧ 0 ≤ r ∧ r < k) :=
  (en_call (ds := [.int k]) hv (ea_cons ed_int ea_nil) rfl ⟨k, rfl, h1, h2⟩).le (Nat.le_refl _) fun d ⟨r, m, e, em, h0, hm⟩ => by
    cases (show D.int k = D.int m from em)
    exact ⟨r, e, h0, hm⟩
theorem en_pick {K : PySem.W.Frag} [LT K] {a : Addr} {te tl : TE} {σ : L2.St} {S : Wd} {es : List D} (hv : EvV K (some a) te σ S (.ref a)) (hl : EvD K (some a) tl σ S (.lst es)) (ne : es ≠ []) (few : es.length ≤ 1000000) : EvN K (some a) (tCall (sp__law_pick K) [] E0 (tCons te (tCons tl tNil))) σ S 1 (fun d => d ∈ es) :=
  (en_call (ds := [.lst es]) hv (ea_cons hl ea_nil) rfl ⟨es, rfl, ne, few⟩).le (Nat.le_refl _) fun d ⟨es', e1, e2⟩ => by
    cases (show some es = some es' from e1)
    exact e2
theorem str_mem {ss : List Str} {d : D} (h : d ∈ ss.map D.str) : ∃ s, d = .str s ∧ s ∈ ss := by
  obtain ⟨s, hs, e⟩ := List.mem_map.mp h
  exact ⟨s, e.symm, hs⟩
theorem sub_atoms {ss : List Str} (h : (ss.all fun s => atomsL.contains s) = true) : ∀ s ∈ ss, s ∈ atomsL := fun s hs => by
  have := List.all_eq_true.mp h s hs
  simpa using this
theorem rd__law_statement {P : Program} {w : World} {K : PySem.W.Frag} [LT K] {mg : Str → Option Value} (Z : Fs P w K mg) (n : Nat) {vs : List V} {H : Hp} {Q : VK} {E : XK} (h : sp__law_statement K (n + 1) vs H Q E) : t__law_statement Z (sp__law_statement K n) { nx := fun _ H' => Q .non H', rt := Q } (L2.start N__law_statement vs) H := by
  refine fnN (show spN K 2 (nS n) (stPre n) (fun _ d => DrP (zS n) d) vs H Q E from h) (Nat.le_of_ble_eq_true rfl) fun S0 a ds σ G hn hp st k => ?_
  match ds, hn, hp, st, k with
  | [dk, dm], _, hp, st, k =>
  obtain ⟨ks, m, e1, kne, klen, kat, e2, m0, mn⟩ := hp
  cases (show dk = .lst (ks.map D.str) from e1)
  cases (show dm = .int m from e2)
  have n2 := nS_pos n
  have pen : ∀ {σ : L2.St} {S : Wd} {l : En} {B : Hp} {M k : Nat}, Sta K (some a) S0 B N__law_statement.length M k σ S l → get l 0 = some (.val (.ref a)) → EvV K (some a) (tVar 0) σ S (.ref a) := fun s hg => ev_var s hg
  have bare : ∀ {σ : L2.St} {S : Wd} {l : En} {B : Hp} {M k : Nat}, Sta K (some a) S0 B N__law_statement.length M k σ S l → get l 0 = some (.val (.ref a)) → EvN K (some a) (tCall (sp__law_pick K) [] E0 (tCons (tVar 0) (tCons (tLst (tCons (tC (.str "nothing")) (tCons (tC (.str "any")) (tCons (tC (.str "no")) (tCons (tC (.str "nothing")) tNil))))) tNil))) σ S 1 (DrP (zS n)) := fun s hg =>
    (en_pick (es := (["nothing", "any", "no", "nothing"] : List Str).map D.str) (pen s hg) (EvO.ed (eo_lst (ea_cons ed_str (ea_cons ed_str (ea_cons ed_str (ea_cons ed_str ea_nil)))) (le_line (Nat.le_of_ble_eq_true rfl)))) (by decide) (by decide)).le (Nat.le_refl _) fun d hd => by
      obtain ⟨w, rfl, hw⟩ := str_mem hd
      exact ⟨1, .atom (sub_atoms (by decide +kernel) w hw), zS_pos n⟩
  refine s_seq (s_N st (en_draw (k := 12) (pen st rfl) (by decide) (by decide)) (by decide) (by omega) fun dw σ1 S1 hw st1 => ?_)
  obtain ⟨w, rfl, w0, w12⟩ := hw
  dsimp only
  have t1 : EvT K (some a) (tOr (tTest (tOp (rEqU K) (tVar 2) (tC (.int 0)))) (tTest (tOp (rI0 fun i j => .bl (decide (i < j))) (tVar 3) (tC (.int 5))))) σ1 S1 (decide (m = 0) || decide (w < 5)) :=
    et_or (et_test (ed_op (EvD.h (ed_var (i := 2) st1 rfl)) (EvD.h ed_int) rd_eqI)) fun _ => et_test (ed_op (EvD.h (ed_var (i := 3) st1 rfl)) (EvD.h ed_int) (rd_B0 (f := fun i j => decide (i < j))))
  refine s_seq (s_if st1 t1 (fun hb S2 st2 => ?_) (fun hb S2 st2 => ?_))
  · refine s_retN (k := 1) (P := DrP (zS n)) st2 (en_if (et_test (ed_op (EvD.h (ed_var (i := 3) st2 rfl)) (EvD.h ed_int) (rd_B0 (f := fun i j => decide (i < j))))) (fun _ => ?_) (fun _ => bare st2 rfl)) (by omega) (fun v d S' hd g t r => k v d S' hd g (by omega) r)
    exact (en_pick (pen st2 rfl) (ed_var (i := 1) st2 rfl) (by simpa using kne) (by rw [List.length_map]; omega)).le (Nat.le_refl _) fun d hd => by
      obtain ⟨s, rfl, hs⟩ := str_mem hd
      exact ⟨1, .atom (kat s hs), zS_pos n⟩
  · rw [Bool.or_eq_false_iff] at hb
    have m1 := of_decide_eq_false hb.1
    have w5 := of_decide_eq_false hb.2
    obtain ⟨n', rfl⟩ : ∃ n', n = n' + 1 := ⟨n - 1, by omega⟩
    refine s_next ?_
    dsimp only
    refine s_seq (s_if st2 (et_test (ed_op (EvD.h (ed_var (i := 3) st2 rfl)) (EvD.h ed_int) rd_eqI)) (fun h11 S3 st3 => ?_) (fun h11 S3 st3 => ?_))
    · exact s_retN (k := 1) (P := DrP (zS (n' + 1))) st3 (bare st3 rfl) (by omega) (fun v d S' hd g t r => k v d S' hd g (by omega) r)
    · have w11 := of_decide_eq_false h11
      refine s_next ?_
      dsimp only
      have nn : nS (n' + 1) = 2 + 2 * nS n' := rfl
      have below : EvN K (some a) (tCall (sp__law_statement K (n' + 1)) [] E0 (tCons (tVar 0) (tCons (tVar 1) (tCons (tOp (rI0 fun i j => .int (i - j)) (tVar 2) (tC (.int 1))) tNil)))) σ1 S3 (nS n') (DrP (zS n')) :=
        (en_call (n := 2) (N := nS n') (pre := stPre n') (post := fun _ d => DrP (zS n') d) (ds := [.lst (ks.map D.str), .int (m - 1)]) (pen st3 rfl) (ea_cons (ed_var (i := 1) st3 rfl) (ea_cons (ed_op (EvD.h (ed_var (i := 2) st3 rfl)) (EvD.h ed_int) (rd_I0 (f := fun i j => i - j))) ea_nil)) rfl ⟨ks, m - 1, rfl, kne, klen, kat, rfl, by omega, by omega⟩).le (Nat.le_refl _) fun d hd => hd
      obtain ⟨s, hs, hat⟩ : ∃ s : Str, s ∈ joinL ∧ atI ((["both", "gives", "gives", "pick", "or", "both"] : List Str).map D.str) (w - 5) = some (.str s) := by
        have : w = 5 ∨ w = 6 ∨ w = 7 ∨ w = 8 ∨ w = 9 ∨ w = 10 := by omega
        rcases this with rfl | rfl | rfl | rfl | rfl | rfl
        · exact ⟨"both", by decide, rfl⟩
        · exact ⟨"gives", by decide, rfl⟩
        · exact ⟨"gives", by decide, rfl⟩
        · exact ⟨"pick", by decide, rfl⟩
        · exact ⟨"or", by decide, rfl⟩
        · exact ⟨"both", by decide, rfl⟩
      have ix : EvD K (some a) (tOp (rIx K) (tLst (tCons (tC (.str "both")) (tCons (tC (.str "gives")) (tCons (tC (.str "gives")) (tCons (tC (.str "pick")) (tCons (tC (.str "or")) (tCons (tC (.str "both")) tNil))))))) (tOp (rI0 fun i j => .int (i - j)) (tVar 3) (tC (.int 5)))) σ1 S3 (.str s) :=
        ed_ix (EvO.q (eo_lst (ea_cons ed_str (ea_cons ed_str (ea_cons ed_str (ea_cons ed_str (ea_cons ed_str (ea_cons ed_str ea_nil)))))) (le_line (Nat.le_of_ble_eq_true rfl)))) (ed_op (EvD.h (ed_var (i := 3) st3 rfl)) (EvD.h ed_int) (rd_I0 (f := fun i j => i - j))) hat
      refine s_retN (k := 0 + (nS n' + (nS n' + 0))) (P := DrP (zS (n' + 1))) st3 ((en_tup (ean_cons (EvD.toN ix) (ean_cons below (ean_cons below ean_nil))) (fun ds ⟨_, _, e, _, _, _, e2, _, _, _, e3, _, e4⟩ => by rw [e, e2, e3, e4]; exact le_line (Nat.le_of_ble_eq_true rfl))).le (Nat.le_refl _) fun d ⟨ds, ed, x, l1, e1, ex, y, l2, e2, hy, z, l3, e3, hz, e4⟩ => ?_) (by omega) (fun v d S' hd g t r => k v d S' hd g (by omega) r)
      subst ed; subst e1; subst e2; subst e3; subst e4; subst ex
      obtain ⟨c1, g1, b1⟩ := hy
      obtain ⟨c2, g2, b2⟩ := hz
      exact ⟨_, .join hs g1 g2, by show 1 + c1 + c2 ≤ 1 + 2 * zS n'; omega⟩
theorem ok__law_statement {P : Program} {w : World} {K : PySem.W.Frag} [LT K] {mg : Str → Option Value} {base : Heap} (Z : Fs P w K mg) : ∀ n : Nat, FnOk P w K mg base CX0 (2 + n) Z.a__law_statement Z.d__law_statement ["pen", "kinds", "deep"] (sp__law_statement K n)
  | 0 => ⟨fun vs H Q E h => (sp0__law_statement h).elim, fun A outer s H args us vs Q E hr he hb hv h => (sp0__law_statement h).elim⟩
  | n + 1 => Z.F__law_statement.ok sc__law_statement (fun _ _ _ _ h => ln__law_statement h) (fun cdv A outer s H vs Q E hr h => ⟨t__law_statement Z (sp__law_statement K n), ps__law_statement Z (ok__law_statement Z n) hr, rd__law_statement Z n h⟩)
/-! ## _law_listed -/
abbrev N__law_listed : List Str := ["pen", "statement", "row"]
theorem sc__law_listed : FnScope N__law_listed ["pen", "statement"] (defScope s__law_listed) := ⟨rfl, rfl, rfl, by decide +kernel, rfl, by decide +kernel, by decide +kernel⟩
def dbl : Nat → Nat
  | 0 => 1
  | n + 1 => 1 + 2 * dbl n
theorem dbl_pos : ∀ n, 1 ≤ dbl n
  | 0 => Nat.le_refl _
  | n + 1 => by show 1 ≤ 1 + 2 * dbl n; omega
def sp__law_listed (K : PySem.W.Frag) [LT K] : Nat → Sp
  | 0 => fun _ _ _ _ => False
  | n + 1 => spN K 1 (dbl n) (fun ds => DrP 26 (h0 ds) ∧ dep (h0 ds) ≤ n + 1) (fun ds d => fixD d = h0 ds)
theorem sp0__law_listed {K : PySem.W.Frag} [LT K] {vs : List V} {H : Hp} {Q : VK} {E : XK} (h : sp__law_listed K 0 vs H Q E) : False := h
theorem ln__law_listed {K : PySem.W.Frag} [LT K] {n : Nat} {vs : List V} {H : Hp} {Q : VK} {E : XK} (h : sp__law_listed K (n + 1) vs H Q E) : vs.length = 2 := spN_len (show spN K 1 (dbl n) _ _ vs H Q E from h)
def t__law_listed {P : Program} {w : World} {K : PySem.W.Frag} [LT K] {mg : Str → Option Value} (Z : Fs P w K mg) (spR : Sp) : TS :=
  (tSeq (tIfS (tB (tCB (rIsi K) (tCons (tVar 1) (tCons (tC (.ty "str")) tNil))))
    (tRet (tVar 1))
    tNext)
    (tSeq (tAsg (tLst (tCons (tOp (rIx K) (tVar 1) (tC (.int 0))) (tCons (tCall spR [] E0 (tCons (tVar 0) (tCons (tOp (rIx K) (tVar 1) (tC (.int 1))) tNil))) (tCons (tCall spR [] E0 (tCons (tVar 0) (tCons (tOp (rIx K) (tVar 1) (tC (.int 2))) tNil))) tNil)))) (gName 2))
    (tRet (tIf (tTest (tOp (rEqU K) (tCall (sp__law_draw K) [] E0 (tCons (tVar 0) (tCons (tC (.int 2)) tNil))) (tC (.int 0)))) (tVar 2) (tCB (rTuple K) (tCons (tVar 2) tNil))))))
theorem ps__law_listed {P : Program} {w : World} {K : PySem.W.Frag} [LT K] {mg : Str → Option Value} {base : Heap} (Z : Fs P w K mg) {cdv : Value} {A : Around} {outer : List Env} {s : Shared} {H : Hp} {E : XK} {nR : Nat} {spR : Sp} (SF : FnOk P w K mg base CX0 (1 + nR) Z.a__law_listed Z.d__law_listed ["pen", "statement"] spR) (hr : Room (1 + nR) (A.deeper (PyProof.Rows.envOfC "_law_listed" (defScope s__law_listed) s.heap.objs.size Z.a__law_listed cdv))) :
    PSs (cxOf CX0 P w K mg base N__law_listed "_law_listed" (defScope s__law_listed) Z.a__law_listed cdv A outer s H E).nox (defBody s__law_listed) (t__law_listed Z spR) := by
  have hu := hu_of hr
  have hu64 := hr.units
  have hu66 := hu66_of hr
  exact (pss_cons (ps_if (pt_val (pe_callB call_isi (by rfl) Z.z_isinstance (by decide +kernel) (pa_cons (pv 1) (pa_cons (pe_bltn rfl Z.z_str (by decide +kernel) rfl) pa_nil))))
    (pss_one (ps_ret (pv 1)))
    pss_nil)
    (pss_cons (ps_set (i := 2) sc__law_listed.nd rfl (Or.inl rfl) (pe_lst (pa_cons (pe_ix ix_seq (pv 1) pe_int (fun _ _ => rfl)) (pa_cons (pe_call SF hr rfl Z.m__law_listed Z.F__law_listed.kp Z.b__law_listed .nil pass0 (pa_cons (pv 0) (pa_cons (pe_ix ix_seq (pv 1) pe_int (fun _ _ => rfl)) pa_nil))) (pa_cons (pe_call SF hr rfl Z.m__law_listed Z.F__law_listed.kp Z.b__law_listed .nil pass0 (pa_cons (pv 0) (pa_cons (pe_ix ix_seq (pv 1) pe_int (fun _ _ => rfl)) pa_nil))) pa_nil)))))
    (pss_one (ps_ret (pe_ifExp (pt_cmpR (op_eqU hu64) (pe_call (ok__law_draw Z) (hr.mono (Nat.le_trans (by decide) (Nat.le_add_right _ nR))) rfl Z.m__law_draw Z.F__law_draw.kp Z.b__law_draw .nil pass0 (pa_cons (pv 0) (pa_cons pe_int pa_nil))) pe_int (nomark _)) (pv 2) (pe_callTy call_tuple_of (by rfl) Z.z_tuple (by decide +kernel) (pa_cons (pv 2) pa_nil)))))))
theorem rd__law_listed {P : Program} {w : World} {K : PySem.W.Frag} [LT K] {mg : Str → Option Value} (Z : Fs P w K mg) (n : Nat) {vs : List V} {H : Hp} {Q : VK} {E : XK} (h : sp__law_listed K (n + 1) vs H Q E) : t__law_listed Z (sp__law_listed K n) { nx := fun _ H' => Q .non H', rt := Q } (L2.start N__law_listed vs) H := by
  refine fnN (show spN K 1 (dbl n) (fun ds => DrP 26 (h0 ds) ∧ dep (h0 ds) ≤ n + 1) (fun ds d => fixD d = h0 ds) vs H Q E from h) (Nat.le_of_ble_eq_true rfl) fun S0 a ds σ G hn hp st k => ?_
  match ds, hn, hp, st, k with
  | [d], _, hp, st, k =>
  obtain ⟨⟨m, hD, hm⟩, hdp⟩ := (show DrP 26 d ∧ dep d ≤ n + 1 from hp)
  have k : ∀ v d' S', fixD d' = d → Gr K (some a) S0 S' → S'.T ≤ S0.T + dbl n → Rp K S'.F v d' → G.rt v S'.H := k
  have n1 := dbl_pos n
  have t1 := et_str (ed_var (i := 1) st rfl) (mild_kn hD.mild)
  cases hD with
  | atom hs =>
    refine s_seq (s_if (b := true) st t1 (fun _ S2 st2 => ?_) (fun z _ _ => by cases z))
    exact s_ret st2 (ed_var (i := 1) st2 rfl) fun v S' g t r => k v _ S' (by simp only [fixD]) g (by omega) r
  | @join j p q b c hj g1 g2 =>
    obtain ⟨dp, dq, _⟩ := dep_join hdp
    obtain ⟨n', rfl⟩ : ∃ n', n = n' + 1 := ⟨n - 1, by omega⟩
    have nn : dbl (n' + 1) = 1 + 2 * dbl n' := rfl
    refine s_seq (s_if (b := false) st t1 (fun z _ _ => by cases z) (fun _ S2 st2 => ?_))
    refine s_next ?_
    dsimp only
    have below : ∀ {te : TE} {x : D} {c : Nat}, EvD K (some a) te σ S2 x → Drn x c → c ≤ 26 → dep x ≤ n' + 1 → EvN K (some a) (tCall (sp__law_listed K (n' + 1)) [] E0 (tCons (tVar 0) (tCons te tNil))) σ S2 (dbl n') (fun d => fixD d = x) := fun {te x c} he hx hc hd =>
      (en_call (n := 1) (N := dbl n') (pre := fun ds => DrP 26 (h0 ds) ∧ dep (h0 ds) ≤ n' + 1) (post := fun ds d => fixD d = h0 ds) (ds := [x]) (ev_var (i := 0) st2 rfl) (ea_cons he ea_nil) rfl ⟨⟨c, hx, hc⟩, hd⟩).le (Nat.le_refl _) fun d h => h
    have row := en_lst (ean_cons (EvD.toN (ed_at (ed_var (i := 1) st2 rfl) rfl ed_int at0)) (ean_cons (below (ed_at (ed_var (i := 1) st2 rfl) rfl ed_int at2nd) g1 (by omega) dp) (ean_cons (below (ed_at (ed_var (i := 1) st2 rfl) rfl ed_int at3rd) g2 (by omega) dq) ean_nil))) (fun ds ⟨_, _, e, _, _, _, e2, _, _, _, e3, _, e4⟩ => by rw [e, e2, e3, e4]; exact le_line (Nat.le_of_ble_eq_true rfl))
    refine s_seq (s_N st2 row (by decide) (by omega) fun dr σ3 S3 hr st3 => ?_)
    obtain ⟨ds, ed, x, l1, e1, ex, y, l2, e2, hy, z, l3, e3, hz, e4⟩ := hr
    subst ed; subst e1; subst e2; subst e3; subst e4; subst ex
    dsimp only
    have fx : ∀ d', rowD d' = some [.str j, y, z] → fixD d' = .tup [.str j, p, q] := fun d' h => by rw [fix_join h, hy, hz]
    refine s_retN (k := 1 + 0) (P := fun d' => fixD d' = .tup [.str j, p, q]) st3 (en_ifTN (etn_cmp ((en_draw (ev_var (i := 0) st3 rfl) (by decide) (by decide)).le (Nat.le_refl _) fun d ⟨r, e, _⟩ => ⟨r, e⟩) ed_int fun z => rd_eqI) ((ed_var (i := 2) st3 rfl).toN.le (Nat.le_refl _) fun d e => by rw [e]; exact fx _ rfl) ((ed_tuple (EvD.ql (ed_var (i := 2) st3 rfl))).toN.le (Nat.le_refl _) fun d e => by rw [e]; exact fx _ rfl)) (by omega) (fun v d S' hd g t r => k v d S' hd g (by omega) r)
theorem ok__law_listed {P : Program} {w : World} {K : PySem.W.Frag} [LT K] {mg : Str → Option Value} {base : Heap} (Z : Fs P w K mg) : ∀ n : Nat, FnOk P w K mg base CX0 (1 + n) Z.a__law_listed Z.d__law_listed ["pen", "statement"] (sp__law_listed K n)
  | 0 => ⟨fun vs H Q E h => (sp0__law_listed h).elim, fun A outer s H args us vs Q E hr he hb hv h => (sp0__law_listed h).elim⟩
  | n + 1 => Z.F__law_listed.ok sc__law_listed (fun _ _ _ _ h => ln__law_listed h) (fun cdv A outer s H vs Q E hr h => ⟨t__law_listed Z (sp__law_listed K n), ps__law_listed Z (ok__law_listed Z n) hr, rd__law_listed Z n h⟩)
/-! ## _law_long -/
abbrev N__law_long : List Str := ["pen", "many", "some", "turn", "at"]
theorem sc__law_long : FnScope N__law_long ["pen", "many"] (defScope s__law_long) := ⟨rfl, rfl, rfl, by decide +kernel, rfl, by decide +kernel, by decide +kernel⟩
abbrev sp__law_long (K : PySem.W.Frag) [LT K] : Sp := spN K 1 200 (fun ds => ∃ m : Nat, h0 ds = .int (m : Int) ∧ m ≤ 12) (fun ds d => ∀ m : Nat, h0 ds = .int (m : Int) → Drn d (2 * m + 1))
def t__law_long {P : Program} {w : World} {K : PySem.W.Frag} [LT K] {mg : Str → Option Value} (Z : Fs P w K mg) : TS :=
  (tSeq (tAsg (tLc (iRng1 (tCons (tOp (rAddU K) (tVar 1) (tC (.int 1))) tNil)) (gName 3) tYes (tCall (sp__law_pick K) [] E0 (tCons (tVar 0) (tCons (tLst (tCons (tC (.str "coin")) (tCons (tC (.str "a")) (tCons (tC (.str "any")) (tCons (tC (.str "no")) (tCons (tC (.str "nothing")) (tCons (tC (.str "abcdefgh")) tNil))))))) tNil))) [3]) (gName 2))
    (tSeq (tWhile (tTest (tOp (rI0 fun i j => .bl (decide (j < i))) (tCB (rLenA K) (tCons (tVar 2) tNil)) (tC (.int 1))))
    (tSeq (tAsg (tCall (sp__law_draw K) [] E0 (tCons (tVar 0) (tCons (tOp (rI0 fun i j => .int (i - j)) (tCB (rLenA K) (tCons (tVar 2) tNil)) (tC (.int 1))) tNil))) (gName 4))
    (tAsg (tOp (rAddU K) (tOp (rAddU K) (tSl (rSlL K) (tVar 2) tNoPart (tPart (tVar 4))) (tLst (tCons (tTup (tCons (tCall (sp__law_pick K) [] E0 (tCons (tVar 0) (tCons (tLst (tCons (tC (.str "both")) (tCons (tC (.str "gives")) (tCons (tC (.str "pick")) (tCons (tC (.str "or")) tNil))))) tNil))) (tCons (tOp (rIx K) (tVar 2) (tVar 4)) (tCons (tOp (rIx K) (tVar 2) (tOp (rAddU K) (tVar 4) (tC (.int 1)))) tNil)))) tNil))) (tSl (rSlL K) (tVar 2) (tPart (tOp (rAddU K) (tVar 4) (tC (.int 2)))) tNoPart)) (gName 2))))
    (tRet (tOp (rIx K) (tVar 2) (tC (.int 0))))))
theorem ps__law_long {P : Program} {w : World} {K : PySem.W.Frag} [LT K] {mg : Str → Option Value} {base : Heap} (Z : Fs P w K mg) {cdv : Value} {A : Around} {outer : List Env} {s : Shared} {H : Hp} {E : XK} (hr : Room 2 (A.deeper (PyProof.Rows.envOfC "_law_long" (defScope s__law_long) s.heap.objs.size Z.a__law_long cdv))) :
    PSs (cxOf CX0 P w K mg base N__law_long "_law_long" (defScope s__law_long) Z.a__law_long cdv A outer s H E).nox (defBody s__law_long) (t__law_long Z) := by
  have hu := hu_of hr
  have hu64 := hr.units
  have hu66 := hu66_of hr
  exact (pss_cons (ps_setLc (i := 2) (own := [("turn", 3)]) rfl sc__law_long.nd rfl rfl (sw_true rfl rfl rfl (by decide +kernel)) (pi_range1 rfl Z.z_range (pa_cons (pe_op op_addU (pv 1) pe_int) pa_nil)) (blkOk_by (own := [("turn", 3)]) (N := N__law_long) (sc := defScope s__law_long) (by decide +kernel)) (fun _ _ _ _ _ => (pg_name (i := 3) sc__law_long.nd rfl (Or.inl rfl))) (fun _ _ _ _ _ => pts_nil) (fun _ _ _ _ _ => (pe_call (ok__law_pick Z) (hr.mono (by decide)) rfl Z.m__law_pick Z.F__law_pick.kp Z.b__law_pick .nil pass0 (pa_cons (pv 0) (pa_cons (pe_lst (pa_cons pe_str (pa_cons pe_str (pa_cons pe_str (pa_cons pe_str (pa_cons pe_str (pa_cons pe_str pa_nil))))))) pa_nil)))))
    (pss_cons (ps_while PassesOwn.never (pt_cmpR op_gt (pe_callB call_lenA (by rfl) Z.z_len (by decide +kernel) (pa_cons (pv 2) pa_nil)) pe_int (nomark _))
    (pss_cons (ps_set (i := 4) sc__law_long.nd rfl (Or.inl rfl) (pe_call (ok__law_draw Z) (hr.mono (by decide)) rfl Z.m__law_draw Z.F__law_draw.kp Z.b__law_draw .nil pass0 (pa_cons (pv 0) (pa_cons (pe_op op_sub (pe_callB call_lenA (by rfl) Z.z_len (by decide +kernel) (pa_cons (pv 2) pa_nil)) pe_int) pa_nil))))
    (pss_one (ps_set (i := 2) sc__law_long.nd rfl (Or.inl rfl) (pe_op op_addU (pe_op op_addU (pe_slice sl_list (pv 2) po_none (po_some (pv 4))) (pe_lst (pa_cons (pe_tup (pa_cons (pe_call (ok__law_pick Z) (hr.mono (by decide)) rfl Z.m__law_pick Z.F__law_pick.kp Z.b__law_pick .nil pass0 (pa_cons (pv 0) (pa_cons (pe_lst (pa_cons pe_str (pa_cons pe_str (pa_cons pe_str (pa_cons pe_str pa_nil))))) pa_nil))) (pa_cons (pe_ix ix_seq (pv 2) (pv 4) (fun _ _ => rfl)) (pa_cons (pe_ix ix_seq (pv 2) (pe_op op_addU (pv 4) pe_int) (fun _ _ => rfl)) pa_nil)))) pa_nil))) (pe_slice sl_list (pv 2) (po_some (pe_op op_addU (pv 4) pe_int)) po_none))))))
    (pss_one (ps_ret (pe_ix ix_seq (pv 2) pe_int (fun _ _ => rfl))))))
theorem cut_pre {α : Type} (xs : List α) (k : Nat) (hk : k ≤ xs.length) : cutL xs none (some (k : Int)) = xs.take k := by
  unfold cutL
  have e : HT.sIx xs.length 0 none = 0 := rfl
  rw [e, HT.sIx_nat, show min k xs.length = k by omega]
  rfl
theorem cut_post {α : Type} (xs : List α) (k : Nat) (hk : k ≤ xs.length) : cutL xs (some (k : Int)) none = xs.drop k := by
  unfold cutL
  have e : HT.sIx xs.length xs.length none = xs.length := rfl
  rw [e, HT.sIx_nat, show min k xs.length = k by omega]
  rw [List.take_of_length_le (by rw [List.length_drop]; omega)]
theorem atI_nat {es : List D} {c : Nat} {x : D} (h : es[c]? = some x) : atI es (c : Int) = some x := by
  have hc := (List.getElem?_eq_some_iff.mp h).1
  have hix : ixN es.length (c : Int) = some c := by
    unfold ixN
    rw [if_pos (by omega), if_pos (by omega)]
    simp
  unfold atI
  rw [hix]
  exact h
theorem split2 {es : List D} {c : Nat} {x y : D} (h1 : es[c]? = some x) (h2 : es[c + 1]? = some y) : es = es.take c ++ x :: y :: es.drop (c + 2) := by
  obtain ⟨a1, b1⟩ := List.getElem?_eq_some_iff.mp h1
  obtain ⟨a2, b2⟩ := List.getElem?_eq_some_iff.mp h2
  rw [← b1, ← b2, ← List.drop_eq_getElem_cons a2, ← List.drop_eq_getElem_cons a1, List.take_append_drop]
/-- what is known of the statements while they are put together -/
structure Row (m : Nat) (L : List D) : Prop where
  ne : 1 ≤ L.length
  few : L.length ≤ m + 1
  all : ∀ x ∈ L, Drn x (sizeS x)
  sum : sizes L + L.length = 2 * m + 2
theorem Row.join {m c : Nat} {L : List D} {x y : D} {j : Str} (h : Row m L) (h1 : L[c]? = some x) (h2 : L[c + 1]? = some y) (hj : j ∈ joinL) : Row m (L.take c ++ [D.tup [.str j, x, y]] ++ L.drop (c + 2)) ∧ (L.take c ++ [D.tup [.str j, x, y]] ++ L.drop (c + 2)).length < L.length := by
  have s := split2 h1 h2
  have a2 := (List.getElem?_eq_some_iff.mp h2).1
  have len : (L.take c ++ [D.tup [.str j, x, y]] ++ L.drop (c + 2)).length + 1 = L.length := by
    simp only [List.length_append, List.length_take, List.length_drop, List.length_singleton]
    omega
  have gx := h.all x (List.mem_of_getElem? h1)
  have gy := h.all y (List.mem_of_getElem? h2)
  have zj : sizeS (.tup [.str j, x, y]) = 1 + sizeS x + sizeS y := size_join Drn.row
  have hs := congrArg sizes s
  rw [sizes_app] at hs
  simp only [sizes, List.map_cons, List.sum_cons] at hs
  have h3 := h.sum
  have h4 := h.few
  refine ⟨⟨by omega, by omega, fun z hz => ?_, ?_⟩, by omega⟩
  · rw [List.mem_append, List.mem_append, List.mem_singleton] at hz
    rcases hz with (hz | rfl) | hz
    · exact h.all z (List.mem_of_mem_take hz)
    · rw [zj]
      exact .join hj gx gy
    · exact h.all z (List.mem_of_mem_drop hz)
  · rw [sizes_app, sizes_app]
    simp only [sizes, List.map_cons, List.map_nil, List.sum_cons, List.sum_nil, zj] at hs h3 ⊢
    omega
theorem rd__law_long {P : Program} {w : World} {K : PySem.W.Frag} [LT K] {mg : Str → Option Value} (Z : Fs P w K mg) {vs : List V} {H : Hp} {Q : VK} {E : XK} (h : sp__law_long K vs H Q E) : t__law_long Z { nx := fun _ H' => Q .non H', rt := Q } (L2.start N__law_long vs) H := by
  refine fnN h (Nat.le_of_ble_eq_true rfl) fun S0 a ds σ G hn hp st k => ?_
  match ds, hn, hp, st, k with
  | [d], _, hp, st, k =>
  obtain ⟨m, e, hm⟩ := hp
  cases (show d = .int (m : Int) from e)
  have k : ∀ v d' S', Drn d' (2 * m + 1) → Gr K (some a) S0 S' → S'.T ≤ S0.T + 200 → Rp K S'.F v d' → G.rt v S'.H := fun v d' S' hd => k v d' S' fun m' e' => by
    cases (show D.int (m : Int) = .int (m' : Int) from e')
    exact hd
  have pk : ∀ {σ : L2.St} {S : Wd} {l : En} {B : Hp} {M k : Nat}, Sta K (some a) S0 B N__law_long.length M k σ S l → get l 0 = some (.val (.ref a)) → EvN K (some a) (tCall (sp__law_pick K) [] E0 (tCons (tVar 0) (tCons (tLst (tCons (tC (.str "coin")) (tCons (tC (.str "a")) (tCons (tC (.str "any")) (tCons (tC (.str "no")) (tCons (tC (.str "nothing")) (tCons (tC (.str "abcdefgh")) tNil))))))) tNil))) σ S 1 (fun d => Drn d 1) := fun s hg =>
    (en_pick (es := (["coin", "a", "any", "no", "nothing", "abcdefgh"] : List Str).map D.str) (ev_var s hg) (EvO.ed (eo_lst (ea_cons ed_str (ea_cons ed_str (ea_cons ed_str (ea_cons ed_str (ea_cons ed_str (ea_cons ed_str ea_nil)))))) (le_line (Nat.le_of_ble_eq_true rfl)))) (by decide) (by decide)).le (Nat.le_refl _) fun d hd => by
      obtain ⟨w, rfl, hw⟩ := str_mem hd
      exact .atom (sub_atoms (by decide +kernel) w hw)
  have lc := en_lc (K := K) (i := 3) (vs := [3]) (w := 1) (R := fun _ d => Drn d 1) (te := tCall (sp__law_pick K) [] E0 (tCons (tVar 0) (tCons (tLst (tCons (tC (.str "coin")) (tCons (tC (.str "a")) (tCons (tC (.str "any")) (tCons (tC (.str "no")) (tCons (tC (.str "nothing")) (tCons (tC (.str "abcdefgh")) tNil))))))) tNil))) st (es_rng1 (z := (m : Int) + 1) (eh_cons (EvD.h (ed_op (EvD.h (ed_var (i := 1) st rfl)) (EvD.h (ed_int (i := 1))) rd_add)) eh_nil) ⟨by omega, by omega⟩) (by decide) rfl (fun _ _ B' n' σ' S' st' => pk st' rfl) (lt_line (by rw [rng_len]; omega))
  rw [rng_len] at lc
  have tn : ((m : Int) + 1).toNat = m + 1 := by omega
  rw [tn] at lc
  refine s_seq (s_N st (EvON.ed lc) (by decide) (by omega) fun dl σ1 S1 hl st1 => ?_)
  obtain ⟨L, rfl, len, all⟩ := hl
  dsimp only
  have all1 : ∀ x ∈ L, Drn x 1 := fun x hx => by
    obtain ⟨d', _, hr⟩ := lc_all (ds := rng 0 (m + 1)) (R := fun _ d => Drn d 1) (by rw [rng_len]; exact len) all x hx
    exact hr
  have r0 : Row m L := ⟨by omega, by omega, fun x hx => by rw [(all1 x hx).size]; exact all1 x hx, by
    have : sizes L = L.length := by
      clear len all st1 lc
      induction L with
      | nil => rfl
      | cons x xs ih =>
        have := ih fun z hz => all1 z (List.mem_cons_of_mem _ hz)
        have := (all1 x List.mem_cons_self).size
        simp only [sizes, List.map_cons, List.sum_cons, List.length_cons] at *
        omega
    omega⟩
  refine s_seq (s_whileN (w := 2) (Row m) (fun L => [(2, .dat (.lst L)), (0, .val (.ref a))]) (fun L => L.length) (fun L => decide (1 < L.length)) L st1 r0 ⟨rfl, rfl, True.intro⟩ (by omega) (fun L n' σ S ia sa => ?_) (fun L n' σ S ia hb hN sa D' hrt nx _ => ?_) (fun L n' σ S ia hb hN sa => ?_))
  · have few := ia.few
    exact EvT.is (et_test (ed_op (EvD.h (ed_lenR (ed_var (i := 2) sa rfl) rfl (by omega))) (EvD.h ed_int) (rd_B0 (f := fun i j => decide (j < i))))) (decide_eq_decide.mpr (by omega))
  · have few := ia.few
    have two := of_decide_eq_true hb
    have atE : EvN K (some a) (tCall (sp__law_draw K) [] E0 (tCons (tVar 0) (tCons (tOp (rI0 fun i j => .int (i - j)) (tCB (rLenA K) (tCons (tVar 2) tNil)) (tC (.int 1))) tNil))) σ S 1 (fun d => ∃ c : Nat, d = .int (c : Int) ∧ c + 1 < L.length) :=
      (en_call (ds := [.int ((L.length : Int) - 1)]) (ev_var (i := 0) sa rfl) (ea_cons (ed_op (EvD.h (ed_lenR (ed_var (i := 2) sa rfl) rfl (by omega))) (EvD.h ed_int) (rd_I0 (f := fun i j => i - j))) ea_nil) rfl ⟨_, rfl, by omega, by omega⟩).le (Nat.le_refl _) fun d ⟨r, z, e, ez, h0, hz⟩ => by
        cases (show D.int ((L.length : Int) - 1) = D.int z from ez)
        exact ⟨r.toNat, by rw [e]; congr 1; omega, by omega⟩
    refine s_seq (s_N sa atE (by decide) (by omega) fun da σ2 S2 ha st2 => ?_)
    obtain ⟨c, rfl, hc⟩ := ha
    dsimp only
    obtain ⟨x, hx⟩ : ∃ x, L[c]? = some x := ⟨_, List.getElem?_eq_getElem (by omega)⟩
    obtain ⟨y, hy⟩ : ∃ y, L[c + 1]? = some y := ⟨_, List.getElem?_eq_getElem (by omega)⟩
    have e1 := EvO.nl (eo_sl (lo := none) (hi := some (c : Int)) (EvD.ql (ed_var (i := 2) st2 rfl)) eb_no (eb_int (ed_var (i := 4) st2 rfl)))
    have e3 := EvO.nl (eo_sl (lo := some (((c + 2 : Nat)) : Int)) (hi := none) (EvD.ql (ed_var (i := 2) st2 rfl)) (eb_int (EvD.is (ed_op (EvD.h (ed_var (i := 4) st2 rfl)) (EvD.h (ed_int (i := 2))) rd_add) (congrArg D.int (by omega)))) eb_no)
    rw [cut_pre _ _ (by omega)] at e1
    rw [cut_post _ _ (by omega)] at e3
    have pj : EvN K (some a) (tCall (sp__law_pick K) [] E0 (tCons (tVar 0) (tCons (tLst (tCons (tC (.str "both")) (tCons (tC (.str "gives")) (tCons (tC (.str "pick")) (tCons (tC (.str "or")) tNil))))) tNil))) σ2 S2 1 (fun d => ∃ j, d = .str j ∧ j ∈ joinL) :=
      (en_pick (es := (["both", "gives", "pick", "or"] : List Str).map D.str) (ev_var (i := 0) st2 rfl) (EvO.ed (eo_lst (ea_cons ed_str (ea_cons ed_str (ea_cons ed_str (ea_cons ed_str ea_nil)))) (le_line (Nat.le_of_ble_eq_true rfl)))) (by decide) (by decide)).le (Nat.le_refl _) fun d hd => by
        obtain ⟨w, rfl, hw⟩ := str_mem hd
        refine ⟨w, rfl, ?_⟩
        have : ((["both", "gives", "pick", "or"] : List Str).all fun s => joinL.contains s) = true := by decide +kernel
        have := List.all_eq_true.mp this w hw
        simpa using this
    have ex : EvD K (some a) (tOp (rIx K) (tVar 2) (tVar 4)) σ2 S2 x := ed_ix (EvD.ql (ed_var (i := 2) st2 rfl)) (ed_var (i := 4) st2 rfl) (atI_nat hx)
    have ey : EvD K (some a) (tOp (rIx K) (tVar 2) (tOp (rAddU K) (tVar 4) (tC (.int 1)))) σ2 S2 y := ed_ix (EvD.ql (ed_var (i := 2) st2 rfl)) (EvD.is (ed_op (EvD.h (ed_var (i := 4) st2 rfl)) (EvD.h (ed_int (i := 1))) rd_add) (congrArg D.int (show (c : Int) + 1 = ((c + 1 : Nat) : Int) by omega))) (atI_nat hy)
    have e2 : EvN K (some a) _ σ2 S2 1 (fun d => ∃ ys, d = .lst ys ∧ ∃ j, j ∈ joinL ∧ ys = [.tup [.str j, x, y]]) :=
      (en_lst (ean_cons (en_tup (ean_cons pj (ean_cons (EvD.toN ex) (ean_cons (EvD.toN ey) ean_nil))) (fun ds ⟨_, _, e, _, _, _, e2, _, _, _, e3, _, e4⟩ => by rw [e, e2, e3, e4]; exact le_line (Nat.le_of_ble_eq_true rfl))) ean_nil) (fun ds ⟨_, _, e, _, e2⟩ => by rw [e, e2]; exact le_line (Nat.le_of_ble_eq_true rfl))).le (by decide) fun d ⟨ds, ed, t, l0, e0, ⟨us, eu, u, l1, e1, ⟨j, ej, hj⟩, v, l2, e2, ev, w, l3, e3, ew, e4⟩, e5⟩ => by
        subst ed; subst e0; subst eu; subst e5; subst e1; subst e2; subst e3; subst e4; subst ej; subst ev; subst ew
        exact ⟨_, rfl, j, hj, rfl⟩
    refine s_N (k := 1) (P := fun d => ∃ L', d = .lst L' ∧ Row m L' ∧ L'.length < L.length) st2 ((en_cat (en_cat e1 e2 (fun xs ys e5 ⟨j, _, e6⟩ => by rw [e5, e6]; exact le_line (by simp only [List.length_take, List.length_singleton]; omega))) e3 (fun xs ys ⟨us, vs, e5, ⟨j, _, e6⟩, e7⟩ e8 => by rw [e7, e5, e6, e8]; exact le_line (by simp only [List.length_append, List.length_drop, List.length_take, List.length_singleton]; omega))).le (by decide) fun d ⟨zs, ed, xs, ys, ⟨us, vs, e5, ⟨j, hj, e6⟩, e7⟩, e8, e9⟩ => by
      subst e9; subst e7; subst e5; subst e6; subst e8
      exact ⟨_, ed, ia.join hx hy hj⟩) (by decide) (by omega) fun d' σ3 S3 hd st3 => ?_
    obtain ⟨L', rfl, hR, lt⟩ := hd
    exact nx L' _ S3 _ hR lt st3 ⟨rfl, rfl, True.intro⟩
  · have ne := ia.ne
    have no := of_decide_eq_false hb
    have hs := ia.sum
    obtain ⟨x, rfl⟩ : ∃ x, L = [x] := by
      match L, ne, no with
      | [x], _, _ => exact ⟨x, rfl⟩
      | [], ne, _ => exact absurd ne (by simp)
      | _ :: _ :: _, _, no => exact absurd no (by simp)
    simp only [sizes, List.map_cons, List.map_nil, List.sum_cons, List.sum_nil, List.length_singleton] at hs
    have gx := ia.all x List.mem_cons_self
    rw [show sizeS x = 2 * m + 1 by omega] at gx
    exact s_ret sa (ed_ix (EvD.ql (ed_var (i := 2) sa rfl)) ed_int at0) fun v S' g t r => k v x S' gx g (by omega) r
theorem ok__law_long {P : Program} {w : World} {K : PySem.W.Frag} [LT K] {mg : Str → Option Value} {base : Heap} (Z : Fs P w K mg) : FnOk P w K mg base CX0 3 Z.a__law_long Z.d__law_long ["pen", "many"] (sp__law_long K) :=
  Z.F__law_long.ok sc__law_long (fun _ _ _ _ h => by first | exact spP_len h | exact spN_len h | exact spPen_len h) (fun cdv A outer s H vs Q E hr h => ⟨t__law_long Z, ps__law_long Z hr, rd__law_long Z h⟩)
/-! ## _law_bent -/
abbrev N__law_bent : List Str := ["pen", "statement", "bad", "at", "row"]
theorem sc__law_bent : FnScope N__law_bent ["pen", "statement"] (defScope s__law_bent) := ⟨rfl, rfl, rfl, by decide +kernel, rfl, by decide +kernel, by decide +kernel⟩
/-- what comes of a statement that is bent: none -/
def BP (d r : D) : Prop := stm r = false ∧ mild r = true ∧ sz r ≤ sz d + 5
def sp__law_bent (K : PySem.W.Frag) [LT K] : Nat → Sp
  | 0 => fun _ _ _ _ => False
  | n + 1 => spN K 1 (3 * (n + 1)) (fun ds => DrP 26 (h0 ds) ∧ dep (h0 ds) ≤ n + 1) (fun ds d => BP (h0 ds) d)
theorem sp0__law_bent {K : PySem.W.Frag} [LT K] {vs : List V} {H : Hp} {Q : VK} {E : XK} (h : sp__law_bent K 0 vs H Q E) : False := h
theorem ln__law_bent {K : PySem.W.Frag} [LT K] {n : Nat} {vs : List V} {H : Hp} {Q : VK} {E : XK} (h : sp__law_bent K (n + 1) vs H Q E) : vs.length = 2 := spN_len (show spN K 1 (3 * (n + 1)) _ _ vs H Q E from h)
def t__law_bent {P : Program} {w : World} {K : PySem.W.Frag} [LT K] {mg : Str → Option Value} (Z : Fs P w K mg) (spR : Sp) : TS :=
  (tSeq (tAsg (tCall (sp__law_pick K) [] E0 (tCons (tVar 0) (tCons (tLst (tCons (tC .non) (tCons (tC (.int 5)) (tCons (tC (.bl true)) (tCons (tC (.str "")) (tCons (tC (.str "Coin")) (tCons (tC (.str "both")) (tCons (tC (.str "ninesigns")) (tCons (tC (.str "give")) (tCons (tC (.str "left")) (tCons (tC (.str "a b")) (tCons (tTup tNil) (tCons (tTup (tCons (tC (.str "both")) tNil)) (tCons (tTup (tCons (tC (.str "both")) (tCons (tC (.str "a")) tNil))) (tCons (tTup (tCons (tC (.str "and")) (tCons (tC (.str "a")) (tCons (tC (.str "b")) tNil)))) (tCons (tTup (tCons (tC (.str "both")) (tCons (tC (.str "a")) (tCons (tC (.str "b")) (tCons (tC (.str "c")) tNil))))) (tCons (tTup (tCons (tC (.str "gives")) (tCons (tC (.str "a")) (tCons (tC .non) tNil)))) (tCons tDNewK (tCons (tTup (tCons (tC (.str "any")) (tCons (tC (.str "a")) (tCons (tC (.str "b")) tNil)))) (tCons (tTup (tCons (tC .non) (tCons (tC (.str "a")) (tCons (tC (.str "b")) tNil)))) (tCons (tTup (tCons (tTup (tCons (tC (.str "both")) tNil)) (tCons (tC (.str "a")) (tCons (tC (.str "b")) tNil)))) tNil))))))))))))))))))))) tNil))) (gName 2))
    (tSeq (tIfS (tOr (tB (tCB (rIsi K) (tCons (tVar 1) (tCons (tC (.ty "str")) tNil)))) (tTest (tOp (rEqU K) (tCall (sp__law_draw K) [] E0 (tCons (tVar 0) (tCons (tC (.int 3)) tNil))) (tC (.int 0)))))
    (tRet (tVar 2))
    tNext)
    (tSeq (tAsg (tOp (rAddU K) (tC (.int 1)) (tCall (sp__law_draw K) [] E0 (tCons (tVar 0) (tCons (tC (.int 2)) tNil)))) (gName 3))
    (tSeq (tAsg (tCB (rList K) (tCons (tVar 1) tNil)) (gName 4))
    (tSeq (tAsg (tCall spR [] E0 (tCons (tVar 0) (tCons (tOp (rIx K) (tVar 1) (tVar 3)) tNil))) (gSub (tVar 4) (tVar 3) rSetL))
    (tRet (tCB (rTuple K) (tCons (tVar 4) tNil))))))))
theorem ps__law_bent {P : Program} {w : World} {K : PySem.W.Frag} [LT K] {mg : Str → Option Value} {base : Heap} (Z : Fs P w K mg) {cdv : Value} {A : Around} {outer : List Env} {s : Shared} {H : Hp} {E : XK} {nR : Nat} {spR : Sp} (SF : FnOk P w K mg base CX0 (2 + nR) Z.a__law_bent Z.d__law_bent ["pen", "statement"] spR) (hr : Room (2 + nR) (A.deeper (PyProof.Rows.envOfC "_law_bent" (defScope s__law_bent) s.heap.objs.size Z.a__law_bent cdv))) :
    PSs (cxOf CX0 P w K mg base N__law_bent "_law_bent" (defScope s__law_bent) Z.a__law_bent cdv A outer s H E).nox (defBody s__law_bent) (t__law_bent Z spR) := by
  have hu := hu_of hr
  have hu64 := hr.units
  have hu66 := hu66_of hr
  exact (pss_cons (ps_set (i := 2) sc__law_bent.nd rfl (Or.inl rfl) (pe_call (ok__law_pick Z) (hr.mono (Nat.le_trans (by decide) (Nat.le_add_right _ nR))) rfl Z.m__law_pick Z.F__law_pick.kp Z.b__law_pick .nil pass0 (pa_cons (pv 0) (pa_cons (pe_lst (pa_cons pe_non (pa_cons pe_int (pa_cons pe_bl (pa_cons pe_str (pa_cons pe_str (pa_cons pe_str (pa_cons pe_str (pa_cons pe_str (pa_cons pe_str (pa_cons pe_str (pa_cons (pe_tup pa_nil) (pa_cons (pe_tup (pa_cons pe_str pa_nil)) (pa_cons (pe_tup (pa_cons pe_str (pa_cons pe_str pa_nil))) (pa_cons (pe_tup (pa_cons pe_str (pa_cons pe_str (pa_cons pe_str pa_nil)))) (pa_cons (pe_tup (pa_cons pe_str (pa_cons pe_str (pa_cons pe_str (pa_cons pe_str pa_nil))))) (pa_cons (pe_tup (pa_cons pe_str (pa_cons pe_str (pa_cons pe_non pa_nil)))) (pa_cons pe_dnewK (pa_cons (pe_tup (pa_cons pe_str (pa_cons pe_str (pa_cons pe_str pa_nil)))) (pa_cons (pe_tup (pa_cons pe_non (pa_cons pe_str (pa_cons pe_str pa_nil)))) (pa_cons (pe_tup (pa_cons (pe_tup (pa_cons pe_str pa_nil)) (pa_cons pe_str (pa_cons pe_str pa_nil)))) pa_nil))))))))))))))))))))) pa_nil))))
    (pss_cons (ps_if (PW.pt (pw_or (pt_val (pe_callB call_isi (by rfl) Z.z_isinstance (by decide +kernel) (pa_cons (pv 1) (pa_cons (pe_bltn rfl Z.z_str (by decide +kernel) rfl) pa_nil)))) (pw_or1 (pt_cmpR (op_eqU hu64) (pe_call (ok__law_draw Z) (hr.mono (Nat.le_trans (by decide) (Nat.le_add_right _ nR))) rfl Z.m__law_draw Z.F__law_draw.kp Z.b__law_draw .nil pass0 (pa_cons (pv 0) (pa_cons pe_int pa_nil))) pe_int (nomark _)))))
    (pss_one (ps_ret (pv 2)))
    pss_nil)
    (pss_cons (ps_set (i := 3) sc__law_bent.nd rfl (Or.inl rfl) (pe_op op_addU pe_int (pe_call (ok__law_draw Z) (hr.mono (Nat.le_trans (by decide) (Nat.le_add_right _ nR))) rfl Z.m__law_draw Z.F__law_draw.kp Z.b__law_draw .nil pass0 (pa_cons (pv 0) (pa_cons pe_int pa_nil)))))
    (pss_cons (ps_set (i := 4) sc__law_bent.nd rfl (Or.inl rfl) (pe_callTy call_list_of (by rfl) Z.z_list (by decide +kernel) (pa_cons (pv 1) pa_nil)))
    (pss_cons (ps_asg (pe_call SF hr rfl Z.m__law_bent Z.F__law_bent.kp Z.b__law_bent .nil pass0 (pa_cons (pv 0) (pa_cons (pe_ix ix_seq (pv 1) (pv 3) (fun _ _ => rfl)) pa_nil))) (pg_sub (pv 4) (pv 3) set_list))
    (pss_one (ps_ret (pe_callTy call_tuple_of (by rfl) Z.z_tuple (by decide +kernel) (pa_cons (pv 4) pa_nil)))))))))
def bads : List D := [.non, .int 5, .bl true, .str "", .str "Coin", .str "both", .str "ninesigns", .str "give", .str "left", .str "a b", .tup [], .tup [.str "both"], .tup [.str "both", .str "a"], .tup [.str "and", .str "a", .str "b"], .tup [.str "both", .str "a", .str "b", .str "c"], .tup [.str "gives", .str "a", .non], .dic [], .tup [.str "any", .str "a", .str "b"], .tup [.non, .str "a", .str "b"], .tup [.tup [.str "both"], .str "a", .str "b"]]
theorem bad_ok : ∀ b ∈ bads, stm b = false ∧ mild b = true ∧ sz b ≤ 5 := by
  have : (bads.all fun b => !stm b && (mild b && decide (sz b ≤ 5))) = true := by decide +kernel
  intro b hb
  have := List.all_eq_true.mp this b hb
  simpa only [Bool.and_eq_true, Bool.not_eq_true', decide_eq_true_eq] using this
theorem rd__law_bent {P : Program} {w : World} {K : PySem.W.Frag} [LT K] {mg : Str → Option Value} (Z : Fs P w K mg) (n : Nat) {vs : List V} {H : Hp} {Q : VK} {E : XK} (h : sp__law_bent K (n + 1) vs H Q E) : t__law_bent Z (sp__law_bent K n) { nx := fun _ H' => Q .non H', rt := Q } (L2.start N__law_bent vs) H := by
  refine fnN (show spN K 1 (3 * (n + 1)) (fun ds => DrP 26 (h0 ds) ∧ dep (h0 ds) ≤ n + 1) (fun ds d => BP (h0 ds) d) vs H Q E from h) (Nat.le_of_ble_eq_true rfl) fun S0 a ds σ G hn hp st k => ?_
  match ds, hn, hp, st, k with
  | [d], _, hp, st, k =>
  obtain ⟨⟨m, hD, hm⟩, hdp⟩ := (show DrP 26 d ∧ dep d ≤ n + 1 from hp)
  have k : ∀ v d' S', BP d d' → Gr K (some a) S0 S' → S'.T ≤ S0.T + 3 * (n + 1) → Rp K S'.F v d' → G.rt v S'.H := k
  have one := sz_pos d
  have list := EvO.ed (K := K) (p := some a) (σ := σ) (S := S0) (eo_lst (ds := bads) (ea_cons ed_non (ea_cons ed_int (ea_cons ed_bl (ea_cons ed_str (ea_cons ed_str (ea_cons ed_str (ea_cons ed_str (ea_cons ed_str (ea_cons ed_str (ea_cons ed_str (ea_cons (ed_tup ea_nil) (ea_cons (ed_tup (ea_cons ed_str ea_nil)) (ea_cons (ed_tup (ea_cons ed_str (ea_cons ed_str ea_nil))) (ea_cons (ed_tup (ea_cons ed_str (ea_cons ed_str (ea_cons ed_str ea_nil)))) (ea_cons (ed_tup (ea_cons ed_str (ea_cons ed_str (ea_cons ed_str (ea_cons ed_str ea_nil))))) (ea_cons (ed_tup (ea_cons ed_str (ea_cons ed_str (ea_cons ed_non ea_nil)))) (ea_cons (EvOD.ed eod_new) (ea_cons (ed_tup (ea_cons ed_str (ea_cons ed_str (ea_cons ed_str ea_nil)))) (ea_cons (ed_tup (ea_cons ed_non (ea_cons ed_str (ea_cons ed_str ea_nil)))) (ea_cons (ed_tup (ea_cons (ed_tup (ea_cons ed_str ea_nil)) (ea_cons ed_str (ea_cons ed_str ea_nil)))) ea_nil)))))))))))))))))))) (le_line (Nat.le_of_ble_eq_true rfl)))
  refine s_seq (s_N st (en_pick (es := bads) (ev_var (i := 0) st rfl) list (by decide) (by decide)) (by decide) (by omega) fun odd σ1 S1 ho st1 => ?_)
  obtain ⟨ot, oz, od⟩ := bad_ok odd ho
  dsimp only
  have bodd : BP d odd := ⟨ot, oz, by omega⟩
  have t1 := et_str (ed_var (i := 1) st1 rfl) (mild_kn hD.mild)
  cases hD with
  | atom hs =>
    refine s_seq (s_if (b := true) st1 (et_orT t1) (fun _ S2 st2 => ?_) (fun z _ _ => by cases z))
    exact s_ret st2 (ed_var (i := 2) st2 rfl) fun v S' g t r => k v odd S' bodd g (by omega) r
  | @join j p q b c hj g1 g2 =>
    obtain ⟨dp, dq, _⟩ := dep_join hdp
    obtain ⟨n', rfl⟩ : ∃ n', n = n' + 1 := ⟨n - 1, by omega⟩
    refine s_seq (s_ifTN (k := 1) st1 (etn_or (b := false) t1 fun _ => etn_cmp ((en_draw (k := 3) (ev_var (i := 0) st1 rfl) (by decide) (by decide)).le (Nat.le_refl _) fun d ⟨r, e, _⟩ => ⟨r, e⟩) ed_int fun z => rd_eqI) (by omega) (fun S2 st2 => ?_) (fun S2 st2 => ?_))
    · exact s_ret st2 (ed_var (i := 2) st2 rfl) fun v S' g t r => k v odd S' bodd g (by omega) r
    · refine s_next ?_
      dsimp only
      have atE : EvN K (some a) (tOp (rAddU K) (tC (.int 1)) (tCall (sp__law_draw K) [] E0 (tCons (tVar 0) (tCons (tC (.int 2)) tNil)))) σ1 S2 1 (fun d => d = .int 1 ∨ d = .int 2) :=
        en_op2 ed_int (en_draw (k := 2) (ev_var (i := 0) st2 rfl) (by decide) (by decide)) fun d ⟨r, e, r0, r1⟩ => ⟨.int (1 + r), by
          have : r = 0 ∨ r = 1 := by omega
          rcases this with rfl | rfl
          · exact .inl rfl
          · exact .inr rfl, by rw [e]; exact rd_add⟩
      refine s_seq (s_N st2 atE (by decide) (by omega) fun da σ3 S3 ha st3 => ?_)
      dsimp only
      have below : ∀ {te : TE} {x : D} {c : Nat} {σ : L2.St} {S : Wd} {l : En} {B : Hp} {M k : Nat}, Sta K (some a) S0 B N__law_bent.length M k σ S l → get l 0 = some (.val (.ref a)) → EvD K (some a) te σ S x → Drn x c → c ≤ 26 → dep x ≤ n' + 1 → EvN K (some a) (tCall (sp__law_bent K (n' + 1)) [] E0 (tCons (tVar 0) (tCons te tNil))) σ S (3 * (n' + 1)) (BP x) := fun {te x c σ S l B M kk} s hg he hx hc hd =>
        (en_call (n := 1) (N := 3 * (n' + 1)) (pre := fun ds => DrP 26 (h0 ds) ∧ dep (h0 ds) ≤ n' + 1) (post := fun ds d => BP (h0 ds) d) (ds := [x]) (ev_var (i := 0) s hg) (ea_cons he ea_nil) rfl ⟨⟨c, hx, hc⟩, hd⟩).le (Nat.le_refl _) fun d h => h
      refine s_seq (s_own st3 (eo_list (EvD.qt (ed_var (i := 1) st3 rfl))) (by decide) fun σ4 S4 st4 => ?_)
      dsimp only
      have mj : mild (.str j) = true := by
        have := (word_ok j (List.mem_append_right _ hj)).1
        simp only [mild, decide_eq_true_eq]
        omega
      rcases ha with rfl | rfl
      · refine s_seq (s_setLN (c := 1) st4 rfl (below st4 rfl (ed_at (ed_var (i := 1) st4 rfl) rfl (ed_var (i := 3) st4 rfl) at2nd) g1 (by omega) dp) (ed_var (i := 3) st4 rfl) rfl (by omega) fun y S5 hy st5 => ?_)
        obtain ⟨y1, y2, y3⟩ := hy
        refine s_ret st5 (ed_tuple (eq_var (i := 4) st5 rfl)) fun v S' g t r => k v (.tup [.str j, y, q]) S' ⟨?_, ?_, ?_⟩ g (by omega) r
        · rw [stm_join Drn.row, y1, Bool.false_and, Bool.and_false]
        · simp only [mild, milds, y2, g2.mild, Bool.and_true]
          simpa only [mild] using mj
        · simp only [sz, szs]; omega
      · refine s_seq (s_setLN (c := 2) st4 rfl (below st4 rfl (ed_at (ed_var (i := 1) st4 rfl) rfl (ed_var (i := 3) st4 rfl) at3rd) g2 (by omega) dq) (ed_var (i := 3) st4 rfl) rfl (by omega) fun y S5 hy st5 => ?_)
        obtain ⟨y1, y2, y3⟩ := hy
        refine s_ret st5 (ed_tuple (eq_var (i := 4) st5 rfl)) fun v S' g t r => k v (.tup [.str j, p, y]) S' ⟨?_, ?_, ?_⟩ g (by omega) r
        · rw [stm_join Drn.row, y1, Bool.and_false, Bool.and_false]
        · simp only [mild, milds, y2, g1.mild, Bool.and_true]
          simpa only [mild] using mj
        · simp only [sz, szs]; omega
theorem ok__law_bent {P : Program} {w : World} {K : PySem.W.Frag} [LT K] {mg : Str → Option Value} {base : Heap} (Z : Fs P w K mg) : ∀ n : Nat, FnOk P w K mg base CX0 (2 + n) Z.a__law_bent Z.d__law_bent ["pen", "statement"] (sp__law_bent K n)
  | 0 => ⟨fun vs H Q E h => (sp0__law_bent h).elim, fun A outer s H args us vs Q E hr he hb hv h => (sp0__law_bent h).elim⟩
  | n + 1 => Z.F__law_bent.ok sc__law_bent (fun _ _ _ _ h => ln__law_bent h) (fun cdv A outer s H vs Q E hr h => ⟨t__law_bent Z (sp__law_bent K n), ps__law_bent Z (ok__law_bent Z n) hr, rd__law_bent Z n h⟩)
/-! ## law -/
abbrev N_law : List Str := ["script", "pen", "turn", "statement", "listed", "parts", "is_let", "heard", "kinds", "part", "due", "bad", "wide", "more"]
theorem sc_law : FnScope N_law ["script"] (defScope s_law) := ⟨rfl, rfl, rfl, by decide +kernel, rfl, by decide +kernel, by decide +kernel⟩
def sp_law (K : PySem.W.Frag) [LT K] : Sp := fun vs H Q _ => ∃ (a : Addr) (ns : List Int) (F : Hp), vs = [.ref a] ∧ SqL K H a (ns.map V.int) ∧ ns.length ≤ 63 ∧ Ok K none ⟨F, H, 0⟩ ∧ ∀ H', Q (.bl true) H'
theorem ln_law {K : PySem.W.Frag} [LT K] {vs : List V} {H : Hp} {Q : VK} {E : XK} (h : sp_law K vs H Q E) : vs.length = 1 := by
  obtain ⟨_, _, _, rfl, _⟩ := h
  rfl
def t_law {P : Program} {w : World} {K : PySem.W.Frag} [LT K] {mg : Str → Option Value} (Z : Fs P w K mg) : TS :=
  (tSeq (tAsg (tCall (sp__law_pen K) [] E0 (tCons (tVar 0) tNil)) (gName 1))
    (tSeq (tFor (iRng1 (tCons (tC (.int 8)) tNil)) (gName 2)
    (tSeq (tAsg (tCall (sp__law_pick K) [] E0 (tCons (tVar 1) (tCons (tLst (tCons (tCall (sp__law_long K) [] E0 (tCons (tVar 1) (tCons (tCall (sp__law_draw K) [] E0 (tCons (tVar 1) (tCons (tC (.int 12)) tNil))) tNil))) (tCons (tCall (sp__law_statement K 4) [] E0 (tCons (tVar 1) (tCons (tLst (tCons (tC (.str "coin")) (tCons (tC (.str "tea")) (tCons (tC (.str "a")) tNil)))) (tCons (tC (.int 3)) tNil)))) (tCons (tCall (sp__law_long K) [] E0 (tCons (tVar 1) (tCons (tC (.int 11)) tNil))) tNil)))) tNil))) (gName 3))
    (tSeq (tAsg (tTup (tCons (tCall (sp__law_listed K 14) [] E0 (tCons (tVar 1) (tCons (tVar 3) tNil))) (tCons (tCall (sp__law_parts K 14) [] E0 (tCons (tVar 3) tNil)) tNil))) (gTup K 2 (gCons (gName 4) (gCons (gName 5) gNil))))
    (tSeq (tAsg (tOp (rI0 fun i j => .bl (decide (i ≤ j))) (tCB (rLenA K) (tCons (tVar 5) tNil)) (tC (.int 24))) (gName 6))
    (tSeq (tIfS (tTest (tOp (rNeU K) (tCB (rRepr K) (tCons (tLst (tCons (tCall (sp_is_statement K) [] E0 (tCons (tVar 3) tNil)) (tCons (tCallK (sp_is_statement K) (gv_is_statement_value) E0 tNil (tCons (tVar 4) tNil)) tNil))) tNil)) (tCB (rRepr K) (tCons (tLst (tCons (tVar 6) (tCons (tVar 6) tNil))) tNil))))
    (tRet (tC (.bl false)))
    tNext)
    (tSeq (tAsg (tLst (tCons (Lm.tLamT (LT.tabs K) (TTh K (HC Z)) fun E => (tCall (sp_parts_of K Z.a_BadStatement) [] E (tCons (tVar 4) tNil))) (tCons (Lm.tLamT (LT.tabs K) (TTh K (HC Z)) fun E => (tCallK (sp_size_of K Z.a_BadStatement) (gv_size_of_statement) E tNil (tCons (tVar 4) tNil))) (tCons (Lm.tLamT (LT.tabs K) (TTh K (HC Z)) fun E => (tCall (sp_kinds_of K Z.a_BadStatement) [] E (tCons (tVar 4) tNil))) (tCons (Lm.tLamT (LT.tabs K) (TTh K (HC Z)) fun E => (tCallK (sp_statement_text K Z.a_BadStatement) (gv_statement_text_statement) E tNil (tCons (tVar 4) tNil))) tNil))))) (gName 7))
    (tSeq (tAsg (tCB (rTuple K) (tCons (tSortSetS P w K (tLc (iList K (tVar 5)) (gName 9) (tAnd (tB (tCB (rIsi K) (tCons (tVar 9) (tCons (tC (.ty "str")) tNil)))) (tTest (tOp (rNinV K) (tVar 9) (tTup (tCons (tC (.str "nothing")) (tCons (tC (.str "any")) (tCons (tC (.str "no")) tNil))))))) (tVar 9) [9])) tNil)) (gName 8))
    (tSeq (tAsg (tIf (tB (tVar 6)) (tLst (tCons (tLst (tCons (tCB (rTuple K) (tCons (tVar 5) tNil)) tNil)) (tCons (tLst (tCons (tCB (rLenA K) (tCons (tVar 5) tNil)) tNil)) (tCons (tLst (tCons (tVar 8) tNil)) (tCons (tLst (tCons (tCall (sp__law_text K) [] E0 (tCons (tVar 3) tNil)) tNil)) tNil))))) (tOp rMulU (tLst (tCons (tTup (tCons (tC (.str "statement")) (tCons (tC (.str "statement")) tNil))) tNil)) (tC (.int 4)))) (gName 10))
    (tSeq (tIfS (tOr (tTest (tOp (rNeU K) (tCB (rRepr K) (tCons (tVar 7) tNil)) (tCB (rRepr K) (tCons (tVar 10) tNil)))) (tAnd (tB (tVar 6)) (tTest (tOp (rNeU K) (tCallK (sp_parts_of K Z.a_BadStatement) (gv_parts_of_statement) E0 tNil (tCons (tVar 3) tNil)) (tCB (rTuple K) (tCons (tVar 5) tNil))))))
    (tRet (tC (.bl false)))
    tNext)
    (tSeq (tAsg (tCall (sp__law_bent K 14) [] E0 (tCons (tVar 1) (tCons (tVar 3) tNil))) (gName 11))
    (tSeq (tAsg (tLst (tCons (Lm.tLamT (LT.tabs K) (TTh K (HC Z)) fun E => (tCall (sp_parts_of K Z.a_BadStatement) [] E (tCons (tVar 11) tNil))) (tCons (Lm.tLamT (LT.tabs K) (TTh K (HC Z)) fun E => (tCall (sp_size_of K Z.a_BadStatement) [] E (tCons (tVar 11) tNil))) (tCons (Lm.tLamT (LT.tabs K) (TTh K (HC Z)) fun E => (tCall (sp_kinds_of K Z.a_BadStatement) [] E (tCons (tVar 11) tNil))) (tCons (Lm.tLamT (LT.tabs K) (TTh K (HC Z)) fun E => (tCall (sp_statement_text K Z.a_BadStatement) [] E (tCons (tVar 11) tNil))) tNil))))) (gName 7))
    (tIfS (tOr (tTest (tOp rNotB (tCall (sp_is_statement K) [] E0 (tCons (tVar 11) tNil)) (tC (.bl false)))) (tTest (tOp (rNeU K) (tVar 7) (tOp rMulU (tLst (tCons (tTup (tCons (tC (.str "statement")) (tCons (tC (.str "statement")) tNil))) tNil)) (tC (.int 4))))))
    (tRet (tC (.bl false)))
    tNext))))))))))))
    (tSeq (tPar 12 13 (tCons (tCall (sp__law_long K) [] E0 (tCons (tVar 1) (tCons (tC (.int 11)) tNil))) (tCons (tCall (sp__law_long K) [] E0 (tCons (tVar 1) (tCons (tC (.int 12)) tNil))) tNil)))
    (tRet (tAndV (tOp (rEqU K) (tLst (tCons (tCall (sp_is_statement K) [] E0 (tCons (tVar 12) tNil)) (tCons (tCall (sp_is_statement K) [] E0 (tCons (tVar 13) tNil)) tNil))) (tLst (tCons (tC (.bl true)) (tCons (tC (.bl false)) tNil)))) (tAndV (tOp (rEqU K) (tCall (sp_kinds_of K Z.a_BadStatement) [] E0 (tCons (tC (.str "any")) tNil)) (tTup tNil)) (tOp (rEqU K) (tCall (sp_statement_text K Z.a_BadStatement) [] E0 (tCons (tTup (tCons (tC (.str "gives")) (tCons (tC (.str "a")) (tCons (tTup (tCons (tC (.str "or")) (tCons (tC (.str "no")) (tCons (tC (.str "b")) tNil)))) tNil)))) tNil)) (tC (.str "gives a or no b")))))))))
theorem ps_law {P : Program} {w : World} {K : PySem.W.Frag} [LT K] {mg : Str → Option Value} {base : Heap} (Z : Fs P w K mg) (TB : LamX.TabB base mg Z.c_law Z.p_law) (hmT : (Z.p_law, lamQ "law") ∈ LT.tabs K) (huT : ∀ q ∈ LT.tabs K, q.1 = Z.p_law → q.2 = lamQ "law") {A : Around} {outer : List Env} {s : Shared} {H : Hp} {E : XK} (hG : A.guards = some []) (hr : Room 17 (A.deeper (PyProof.Rows.envOfC "law" (defScope s_law) s.heap.objs.size Z.a_law (.ref Z.c_law)))) :
    PSs (cxOf CX0 P w K mg base N_law "law" (defScope s_law) Z.a_law (.ref Z.c_law) A outer s H E).nox (defBody s_law) (t_law Z) := by
  have hu := hu_of hr
  have hu64 := hr.units
  have hu66 := hu66_of hr
  exact (pss_cons (ps_set (i := 1) sc_law.nd rfl (Or.inl rfl) (pe_call (ok__law_pen Z) (hr.mono (by decide)) rfl Z.m__law_pen Z.F__law_pen.kp Z.b__law_pen .nil pass0 (pa_cons (pv 0) pa_nil)))
    (pss_cons (ps_for PassesOwn.never rfl (pi_range1 rfl Z.z_range (pa_cons pe_int pa_nil)) (pg_name (i := 2) sc_law.nd rfl (Or.inl rfl))
    (pss_cons (ps_set (i := 3) sc_law.nd rfl (Or.inl rfl) (pe_call (ok__law_pick Z) (hr.mono (by decide)) rfl Z.m__law_pick Z.F__law_pick.kp Z.b__law_pick .nil pass0 (pa_cons (pv 1) (pa_cons (pe_lst (pa_cons (pe_call (ok__law_long Z) (hr.mono (by decide)) rfl Z.m__law_long Z.F__law_long.kp Z.b__law_long .nil pass0 (pa_cons (pv 1) (pa_cons (pe_call (ok__law_draw Z) (hr.mono (by decide)) rfl Z.m__law_draw Z.F__law_draw.kp Z.b__law_draw .nil pass0 (pa_cons (pv 1) (pa_cons pe_int pa_nil))) pa_nil))) (pa_cons (pe_call (ok__law_statement Z 4) (hr.mono (by decide)) rfl Z.m__law_statement Z.F__law_statement.kp Z.b__law_statement .nil pass0 (pa_cons (pv 1) (pa_cons (pe_lst (pa_cons pe_str (pa_cons pe_str (pa_cons pe_str pa_nil)))) (pa_cons pe_int pa_nil)))) (pa_cons (pe_call (ok__law_long Z) (hr.mono (by decide)) rfl Z.m__law_long Z.F__law_long.kp Z.b__law_long .nil pass0 (pa_cons (pv 1) (pa_cons pe_int pa_nil))) pa_nil)))) pa_nil))))
    (pss_cons (ps_asg (pe_tup (pa_cons (pe_call (ok__law_listed Z 14) (hr.mono (by decide)) rfl Z.m__law_listed Z.F__law_listed.kp Z.b__law_listed .nil pass0 (pa_cons (pv 1) (pa_cons (pv 3) pa_nil))) (pa_cons (pe_call (ok__law_parts Z 14) (hr.mono (by decide)) rfl Z.m__law_parts Z.F__law_parts.kp Z.b__law_parts .nil pass0 (pa_cons (pv 3) pa_nil)) pa_nil))) (pg_tup rfl (pgs_cons (pg_name (i := 4) sc_law.nd rfl (Or.inr rfl)) (pgs_cons (pg_name (i := 5) sc_law.nd rfl (Or.inl rfl)) pgs_nil))))
    (pss_cons (ps_set (i := 6) sc_law.nd rfl (Or.inl rfl) (pe_cmpR op_le (pe_callB call_lenA (by rfl) Z.z_len (by decide +kernel) (pa_cons (pv 5) pa_nil)) pe_int (nomark _)))
    (pss_cons (ps_if (pt_cmpR (op_neU hu64) (pe_callB (call_repr hG hu66) (by rfl) Z.z_repr (by decide +kernel) (pa_cons (pe_lst (pa_cons (pe_call (ok_is_statement Z) (hr.mono (by decide)) rfl Z.m_is_statement Z.F_is_statement.kp Z.b_is_statement .nil pass0 (pa_cons (pv 3) pa_nil)) (pa_cons (pe_callK0 (ok_is_statement Z) (hr.mono (by decide)) rfl Z.m_is_statement Z.F_is_statement.kp (Z.k_is_statement_value) pass0 (pk_cons (pv 4) pk_nil)) pa_nil))) pa_nil)) (pe_callB (call_repr hG hu66) (by rfl) Z.z_repr (by decide +kernel) (pa_cons (pe_lst (pa_cons (pv 6) (pa_cons (pv 6) pa_nil))) pa_nil)) (nomark _))
    (pss_one (ps_ret pe_bl))
    pss_nil)
    (pss_cons (ps_set (i := 7) sc_law.nd rfl (Or.inl rfl) (pe_lst (pa_cons (Lm.pe_handed (k := 5) Z.F__law_heard rfl Z.m__law_heard Z.b__law_heard sc__law_heard rfl (Or.inl rfl) (fun cdv => gives__law_heard (X := (cxOf CX0 P w K mg base N_law "law" (defScope s_law) Z.a_law (.ref Z.c_law) A outer s H E).nox) Z (hr.mono (by decide)) _ cdv) TB rfl hmT huT (hr.mono (by decide)) (show Lm.LamP N_law (defScope s_law) _ from Lm.lamP_by (by decide +kernel)) ⟨rfl, .inl ⟨rfl, fun _ _ _ _ _ _ => rfl⟩⟩ (fun A2 outer2 s2 H2 E f2 c2 hr2 => (pe_call (ok_parts_of Z) (hr2.mono (by decide)) rfl Z.m_parts_of Z.F_parts_of.kp Z.b_parts_of .nil (passes_call (takes_of rfl rfl rfl rfl) fun _ _ _ _ h => h) (pa_cons (pv 4) pa_nil)))) (pa_cons (Lm.pe_handed (k := 5) Z.F__law_heard rfl Z.m__law_heard Z.b__law_heard sc__law_heard rfl (Or.inl rfl) (fun cdv => gives__law_heard (X := (cxOf CX0 P w K mg base N_law "law" (defScope s_law) Z.a_law (.ref Z.c_law) A outer s H E).nox) Z (hr.mono (by decide)) _ cdv) TB rfl hmT huT (hr.mono (by decide)) (show Lm.LamP N_law (defScope s_law) _ from Lm.lamP_by (by decide +kernel)) ⟨rfl, .inr ⟨"a1", 0, _, _, rfl, rfl, fun _ _ _ _ _ _ _ => ⟨_, rfl, fun _ => rfl⟩⟩⟩ (fun A2 outer2 s2 H2 E f2 c2 hr2 => (pe_callK0 (ok_size_of Z) (hr2.mono (by decide)) rfl Z.m_size_of Z.F_size_of.kp (Z.k_size_of_statement) (passes_call (takes_of rfl rfl rfl rfl) fun _ _ _ _ h => h) (pk_cons (pv 4) pk_nil)))) (pa_cons (Lm.pe_handed (k := 5) Z.F__law_heard rfl Z.m__law_heard Z.b__law_heard sc__law_heard rfl (Or.inl rfl) (fun cdv => gives__law_heard (X := (cxOf CX0 P w K mg base N_law "law" (defScope s_law) Z.a_law (.ref Z.c_law) A outer s H E).nox) Z (hr.mono (by decide)) _ cdv) TB rfl hmT huT (hr.mono (by decide)) (show Lm.LamP N_law (defScope s_law) _ from Lm.lamP_by (by decide +kernel)) ⟨rfl, .inr ⟨"a2", 0, _, _, rfl, rfl, fun _ _ _ _ _ _ _ => ⟨_, rfl, fun _ => rfl⟩⟩⟩ (fun A2 outer2 s2 H2 E f2 c2 hr2 => (pe_call (ok_kinds_of Z) (hr2.mono (by decide)) rfl Z.m_kinds_of Z.F_kinds_of.kp Z.b_kinds_of .nil (passes_call (takes_of rfl rfl rfl rfl) fun _ _ _ _ h => h) (pa_cons (pv 4) pa_nil)))) (pa_cons (Lm.pe_handed (k := 5) Z.F__law_heard rfl Z.m__law_heard Z.b__law_heard sc__law_heard rfl (Or.inl rfl) (fun cdv => gives__law_heard (X := (cxOf CX0 P w K mg base N_law "law" (defScope s_law) Z.a_law (.ref Z.c_law) A outer s H E).nox) Z (hr.mono (by decide)) _ cdv) TB rfl hmT huT (hr.mono (by decide)) (show Lm.LamP N_law (defScope s_law) _ from Lm.lamP_by (by decide +kernel)) ⟨rfl, .inr ⟨"a3", 0, _, _, rfl, rfl, fun _ _ _ _ _ _ _ => ⟨_, rfl, fun _ => rfl⟩⟩⟩ (fun A2 outer2 s2 H2 E f2 c2 hr2 => (pe_callK0 (ok_statement_text Z) (hr2.mono (by decide)) rfl Z.m_statement_text Z.F_statement_text.kp (Z.k_statement_text_statement) (passes_call (takes_of rfl rfl rfl rfl) fun _ _ _ _ h => h) (pk_cons (pv 4) pk_nil)))) pa_nil))))))
    (pss_cons (ps_set (i := 8) sc_law.nd rfl (Or.inl rfl) (pe_callTy call_tuple_of (by rfl) Z.z_tuple (by decide +kernel) (pa_cons (pe_sortSetS rfl rfl Z.z_sorted rfl Z.z_set (pe_lc (own := [("part", 9)]) rfl sc_law.nd (pi_list (pv 5)) (blkOk_by (own := [("part", 9)]) (N := N_law) (sc := defScope s_law) (by decide +kernel)) (fun _ _ _ _ _ => (pg_name (i := 9) sc_law.nd rfl (Or.inl rfl))) (fun _ _ _ _ _ => (pts_one (PW.pt (pw_and (pt_val (pe_callB call_isi (by rfl) Z.z_isinstance (by decide +kernel) (pa_cons (pv 9) (pa_cons (pe_bltn rfl Z.z_str (by decide +kernel) rfl) pa_nil)))) (pw_and1 (pt_cmpR (op_ninV hu) (pv 9) (pe_tup (pa_cons pe_str (pa_cons pe_str (pa_cons pe_str pa_nil)))) rfl)))))) (fun _ _ _ _ _ => (pv 9)))) pa_nil)))
    (pss_cons (ps_set (i := 10) sc_law.nd rfl (Or.inl rfl) (pe_ifExp (pt_val (pv 6)) (pe_lst (pa_cons (pe_lst (pa_cons (pe_callTy call_tuple_of (by rfl) Z.z_tuple (by decide +kernel) (pa_cons (pv 5) pa_nil)) pa_nil)) (pa_cons (pe_lst (pa_cons (pe_callB call_lenA (by rfl) Z.z_len (by decide +kernel) (pa_cons (pv 5) pa_nil)) pa_nil)) (pa_cons (pe_lst (pa_cons (pv 8) pa_nil)) (pa_cons (pe_lst (pa_cons (pe_call (ok__law_text Z) (hr.mono (by decide)) rfl Z.m__law_text Z.F__law_text.kp Z.b__law_text .nil pass0 (pa_cons (pv 3) pa_nil)) pa_nil)) pa_nil))))) (pe_op op_mulU (pe_lst (pa_cons (pe_tup (pa_cons pe_str (pa_cons pe_str pa_nil))) pa_nil)) pe_int)))
    (pss_cons (ps_if (PW.pt (pw_or (pt_cmpR (op_neU hu64) (pe_callB (call_repr hG hu66) (by rfl) Z.z_repr (by decide +kernel) (pa_cons (pv 7) pa_nil)) (pe_callB (call_repr hG hu66) (by rfl) Z.z_repr (by decide +kernel) (pa_cons (pv 10) pa_nil)) (nomark _)) (pw_or1 (PW.pt (pw_and (pt_val (pv 6)) (pw_and1 (pt_cmpR (op_neU hu64) (pe_callK0 (ok_parts_of Z) (hr.mono (by decide)) rfl Z.m_parts_of Z.F_parts_of.kp (Z.k_parts_of_statement) passL (pk_cons (pv 3) pk_nil)) (pe_callTy call_tuple_of (by rfl) Z.z_tuple (by decide +kernel) (pa_cons (pv 5) pa_nil)) (nomark _))))))))
    (pss_one (ps_ret pe_bl))
    pss_nil)
    (pss_cons (ps_set (i := 11) sc_law.nd rfl (Or.inr rfl) (pe_call (ok__law_bent Z 14) (hr.mono (by decide)) rfl Z.m__law_bent Z.F__law_bent.kp Z.b__law_bent .nil pass0 (pa_cons (pv 1) (pa_cons (pv 3) pa_nil))))
    (pss_cons (ps_set (i := 7) sc_law.nd rfl (Or.inl rfl) (pe_lst (pa_cons (Lm.pe_handed (k := 5) Z.F__law_heard rfl Z.m__law_heard Z.b__law_heard sc__law_heard rfl (Or.inl rfl) (fun cdv => gives__law_heard (X := (cxOf CX0 P w K mg base N_law "law" (defScope s_law) Z.a_law (.ref Z.c_law) A outer s H E).nox) Z (hr.mono (by decide)) _ cdv) TB rfl hmT huT (hr.mono (by decide)) (show Lm.LamP N_law (defScope s_law) _ from Lm.lamP_by (by decide +kernel)) ⟨rfl, .inl ⟨rfl, fun _ _ _ _ _ _ => rfl⟩⟩ (fun A2 outer2 s2 H2 E f2 c2 hr2 => (pe_call (ok_parts_of Z) (hr2.mono (by decide)) rfl Z.m_parts_of Z.F_parts_of.kp Z.b_parts_of .nil (passes_call (takes_of rfl rfl rfl rfl) fun _ _ _ _ h => h) (pa_cons (pv 11) pa_nil)))) (pa_cons (Lm.pe_handed (k := 5) Z.F__law_heard rfl Z.m__law_heard Z.b__law_heard sc__law_heard rfl (Or.inl rfl) (fun cdv => gives__law_heard (X := (cxOf CX0 P w K mg base N_law "law" (defScope s_law) Z.a_law (.ref Z.c_law) A outer s H E).nox) Z (hr.mono (by decide)) _ cdv) TB rfl hmT huT (hr.mono (by decide)) (show Lm.LamP N_law (defScope s_law) _ from Lm.lamP_by (by decide +kernel)) ⟨rfl, .inr ⟨"a1", 0, _, _, rfl, rfl, fun _ _ _ _ _ _ _ => ⟨_, rfl, fun _ => rfl⟩⟩⟩ (fun A2 outer2 s2 H2 E f2 c2 hr2 => (pe_call (ok_size_of Z) (hr2.mono (by decide)) rfl Z.m_size_of Z.F_size_of.kp Z.b_size_of .nil (passes_call (takes_of rfl rfl rfl rfl) fun _ _ _ _ h => h) (pa_cons (pv 11) pa_nil)))) (pa_cons (Lm.pe_handed (k := 5) Z.F__law_heard rfl Z.m__law_heard Z.b__law_heard sc__law_heard rfl (Or.inl rfl) (fun cdv => gives__law_heard (X := (cxOf CX0 P w K mg base N_law "law" (defScope s_law) Z.a_law (.ref Z.c_law) A outer s H E).nox) Z (hr.mono (by decide)) _ cdv) TB rfl hmT huT (hr.mono (by decide)) (show Lm.LamP N_law (defScope s_law) _ from Lm.lamP_by (by decide +kernel)) ⟨rfl, .inr ⟨"a2", 0, _, _, rfl, rfl, fun _ _ _ _ _ _ _ => ⟨_, rfl, fun _ => rfl⟩⟩⟩ (fun A2 outer2 s2 H2 E f2 c2 hr2 => (pe_call (ok_kinds_of Z) (hr2.mono (by decide)) rfl Z.m_kinds_of Z.F_kinds_of.kp Z.b_kinds_of .nil (passes_call (takes_of rfl rfl rfl rfl) fun _ _ _ _ h => h) (pa_cons (pv 11) pa_nil)))) (pa_cons (Lm.pe_handed (k := 5) Z.F__law_heard rfl Z.m__law_heard Z.b__law_heard sc__law_heard rfl (Or.inl rfl) (fun cdv => gives__law_heard (X := (cxOf CX0 P w K mg base N_law "law" (defScope s_law) Z.a_law (.ref Z.c_law) A outer s H E).nox) Z (hr.mono (by decide)) _ cdv) TB rfl hmT huT (hr.mono (by decide)) (show Lm.LamP N_law (defScope s_law) _ from Lm.lamP_by (by decide +kernel)) ⟨rfl, .inr ⟨"a3", 0, _, _, rfl, rfl, fun _ _ _ _ _ _ _ => ⟨_, rfl, fun _ => rfl⟩⟩⟩ (fun A2 outer2 s2 H2 E f2 c2 hr2 => (pe_call (ok_statement_text Z) (hr2.mono (by decide)) rfl Z.m_statement_text Z.F_statement_text.kp Z.b_statement_text .nil (passes_call (takes_of rfl rfl rfl rfl) fun _ _ _ _ h => h) (pa_cons (pv 11) pa_nil)))) pa_nil))))))
    (pss_one (ps_if (PW.pt (pw_or (pt_cmpR op_notBl (pe_call (ok_is_statement Z) (hr.mono (by decide)) rfl Z.m_is_statement Z.F_is_statement.kp Z.b_is_statement .nil pass0 (pa_cons (pv 11) pa_nil)) pe_bl (nomark _)) (pw_or1 (pt_cmpR (op_neU hu64) (pv 7) (pe_op op_mulU (pe_lst (pa_cons (pe_tup (pa_cons pe_str (pa_cons pe_str pa_nil))) pa_nil)) pe_int) (nomark _)))))
    (pss_one (ps_ret pe_bl))
    pss_nil)))))))))))))
    (pss_cons (ps_par (i := 12) (j := 13) rfl sc_law.nd rfl rfl (by decide) rfl rfl (pa_cons (pe_call (ok__law_long Z) (hr.mono (by decide)) rfl Z.m__law_long Z.F__law_long.kp Z.b__law_long .nil pass0 (pa_cons (pv 1) (pa_cons pe_int pa_nil))) (pa_cons (pe_call (ok__law_long Z) (hr.mono (by decide)) rfl Z.m__law_long Z.F__law_long.kp Z.b__law_long .nil pass0 (pa_cons (pv 1) (pa_cons pe_int pa_nil))) pa_nil)) rfl)
    (pss_one (ps_ret (pe_and (pe_cmpR (op_eqU hu64) (pe_lst (pa_cons (pe_call (ok_is_statement Z) (hr.mono (by decide)) rfl Z.m_is_statement Z.F_is_statement.kp Z.b_is_statement .nil pass0 (pa_cons (pv 12) pa_nil)) (pa_cons (pe_call (ok_is_statement Z) (hr.mono (by decide)) rfl Z.m_is_statement Z.F_is_statement.kp Z.b_is_statement .nil pass0 (pa_cons (pv 13) pa_nil)) pa_nil))) (pe_lst (pa_cons pe_bl (pa_cons pe_bl pa_nil))) (nomark _)) (pe_and (pe_cmpR (op_eqU hu64) (pe_call (ok_kinds_of Z) (hr.mono (by decide)) rfl Z.m_kinds_of Z.F_kinds_of.kp Z.b_kinds_of .nil passL (pa_cons pe_str pa_nil)) (pe_tup pa_nil) (nomark _)) (pe_one (pe_cmpR (op_eqU hu64) (pe_call (ok_statement_text Z) (hr.mono (by decide)) rfl Z.m_statement_text Z.F_statement_text.kp Z.b_statement_text .nil passL (pa_cons (pe_tup (pa_cons pe_str (pa_cons pe_str (pa_cons (pe_tup (pa_cons pe_str (pa_cons pe_str (pa_cons pe_str pa_nil)))) pa_nil)))) pa_nil)) pe_str (nomark _))))))))))
theorem same_isSt {r d : D} (h : fixD r = d) : isSt r = isSt d := by
  obtain ⟨a, b⟩ := fix_stm _ r (Nat.le_refl _)
  unfold isSt
  rw [← h, a, b]
theorem okV_of {d : D} {m : Nat} (h : Drn d m) (few : m ≤ 26) : okV d := ⟨h.mild, by have := h.sz; omega⟩
theorem okV_fix {r d : D} (h : fixD r = d) (hd : okV d) : okV r := by
  obtain ⟨a, b⟩ := mild_fix r
  rw [h] at a b
  exact ⟨a ▸ hd.1, b ▸ hd.2⟩
theorem isSt_of {d : D} {m : Nat} (h : Drn d m) : isSt d = decide (m ≤ 24) := by
  unfold isSt
  rw [h.stm, h.size, Bool.true_and]
theorem insS_len (x : Str) : ∀ l : List Str, (insG ltS x l).length ≤ l.length + 1
  | [] => Nat.le_refl _
  | y :: l => by
    have := insS_len x l
    unfold insG
    split
    · simp
    · split <;> simp only [List.length_cons] <;> omega
theorem srtS_len : ∀ l : List Str, (srtS l).length ≤ l.length
  | [] => Nat.le_refl _
  | x :: l => by
    have a := srtS_len l
    have b := insS_len x (srtS l)
    show (insG ltS x (srtS l)).length ≤ _
    simp only [List.length_cons]
    omega
theorem szs_le {es : List D} {b c : Nat} (h : ∀ e ∈ es, sz e ≤ b) (hl : es.length ≤ c) : szs es ≤ c * b := by
  induction es generalizing c with
  | nil => simp [szs]
  | cons x xs ih =>
    obtain ⟨c', rfl⟩ : ∃ c', c = c' + 1 := ⟨c - 1, by simp only [List.length_cons] at hl; omega⟩
    have h1 := h x List.mem_cons_self
    have h2 := ih (c := c') (fun e he => h e (List.mem_cons_of_mem _ he)) (by simp only [List.length_cons] at hl; omega)
    simp only [szs]
    rw [Nat.succ_mul]
    omega
theorem deps_le {es : List D} {b : Nat} (h : ∀ e ∈ es, dep e ≤ b) : deps es ≤ b := by
  induction es with
  | nil => simp [deps]
  | cons x xs ih =>
    have h1 := h x List.mem_cons_self
    have h2 := ih fun e he => h e (List.mem_cons_of_mem _ he)
    simp only [deps]
    omega
theorem showy_parts {d : D} {m : Nat} (h : Drn d m) (few : m ≤ 26) : showys (partsS d) = true ∧ deps (partsS d) ≤ 14 ∧ szs (partsS d) ≤ 26 * 52 := by
  refine ⟨?_, deps_le fun x hx => ?_, szs_le (fun x hx => ?_) (by rw [parts_len h.stm, h.size]; exact few)⟩
  · rw [showys_all, List.all_eq_true]
    intro x hx
    obtain ⟨c, _, g⟩ := h.parts x hx
    exact g.showy
  · obtain ⟨c, hc, g⟩ := h.parts x hx
    have := g.dep
    omega
  · obtain ⟨c, hc, g⟩ := h.parts x hx
    have := g.sz
    omega
theorem kind_of {x : D} {s : Str} (h : kindOf x = some s) : x = .str s := by
  cases x with
  | str t =>
    have h : (if bareL.contains t = true then none else some t) = some s := h
    split at h
    · cases h
    · cases h
      rfl
  | _ => cases h
theorem showy_kinds {d : D} {m : Nat} (h : Drn d m) (few : m ≤ 26) : showy (kindsT (partsS d)) = true ∧ dep (kindsT (partsS d)) ≤ 2 ∧ sz (kindsT (partsS d)) ≤ 27 := by
  have l1 := srtS_len (kindsOf (partsS d))
  have l2 := kinds_few (partsS d)
  have l3 := parts_len h.stm
  rw [h.size] at l3
  unfold kindsT
  refine ⟨?_, ?_, ?_⟩
  · simp only [showy]
    rw [showys_all, List.all_map, List.all_eq_true]
    intro s hs
    have hs := (srtS_mem s _).mp hs
    obtain ⟨x, hx, e⟩ := List.mem_filterMap.mp hs
    have := kind_of e
    subst this
    obtain ⟨c, _, g⟩ := h.parts _ hx
    exact g.showy
  · have := deps_le (b := 1) (es := (srtS (kindsOf (partsS d))).map D.str) fun e he => by
      obtain ⟨s, _, rfl⟩ := List.mem_map.mp he
      simp [dep]
    simp only [dep]
    omega
  · have := szs_le (b := 1) (c := 26) (es := (srtS (kindsOf (partsS d))).map D.str) (fun e he => by
      obtain ⟨s, _, rfl⟩ := List.mem_map.mp he
      simp [sz]) (by rw [List.length_map]; omega)
    simp only [sz]
    omega
/-- what is due -/
def dueL (d : D) : List D := [.lst [.tup (partsS d)], .lst [.int (sizeS d : Nat)], .lst [kindsT (partsS d)], .lst [.str (textS d)]]
theorem due_showy {d : D} {m : Nat} (h : Drn d m) (few : m ≤ 24) : showy (.lst (dueL d)) = true ∧ dep (.lst (dueL d)) ≤ 64 ∧ sz (.lst (dueL d)) ≤ 4000 := by
  obtain ⟨a1, a2, a3⟩ := showy_parts h (by omega)
  obtain ⟨b1, b2, b3⟩ := showy_kinds h (by omega)
  obtain ⟨c1, _⟩ := h.text (by omega)
  have z := h.size
  unfold dueL
  refine ⟨?_, ?_, ?_⟩
  · simp only [showy, showys, a1, b1, c1, Bool.and_true, Bool.true_and, Bool.and_eq_true, decide_eq_true_eq]
    omega
  · simp only [dep, deps]
    omega
  · simp only [sz, szs]
    omega
theorem bad_no {r : D} (h : stm r = false) : isSt r = false := by
  unfold isSt
  rw [h, Bool.false_and]
/-- of what is no statement -/
def nope : D := .tup [.str "statement", .str "statement"]
theorem nope_sh : (D.lst [nope, nope, nope, nope]).sh = true := by decide +kernel
/-- a, b = x, y: by way of a tuple, of what is drawn -/
theorem s_unp2N {K : PySem.W.Frag} [LT K] {p : Option Addr} {S S0 : Wd} {B : Hp} {σ : L2.St} {te : TE} {m M n k i1 i2 : Nat} {l : En} {G : Ends} {P1 P2 : D → Prop} (h : Sta K p S0 B m M n σ S l) (he : EvN K p te σ S k (fun d => ∃ d1 d2, d = .tup [d1, d2] ∧ P1 d1 ∧ P2 d2)) (h1 : i1 < m) (h2 : i2 < m) (hn : n + k ≤ M)
    (kk : ∀ d1 d2 σ' S', P1 d1 → P2 d2 → Sta K p S0 B m M (n + k) σ' S' (put i2 (.dat d2) (put i1 (.dat d1) l)) → G.nx σ' S'.H) : tAsg te (gTup K 2 (gCons (gName i1) (gCons (gName i2) gNil))) G σ S.H :=
  he S (Gr.refl h.ok) (by have := h.tb; have := h.tn; omega) _ fun v d S2 g2 t2 rv e => by
    obtain ⟨d1, d2, rfl, p1, p2⟩ := e
    cases rv with
    | tup hsq rr =>
    cases rr with
    | cons r1 rr =>
    cases rr with
    | cons r2 rr =>
    cases rr
    have s1 := (h.grow g2 t2).set (t := .dat d1) h1 r1 (fun z => by cases z)
    have s2 := s1.set (t := .dat d2) h2 r2 (fun z => by cases z)
    exact ⟨_, _, rfl, Evl.ex_t g2.ok.sub hsq, rfl, _, _, rfl, _, _, rfl, rfl, kk _ _ _ S2 p1 p2 s2⟩
theorem rd_law {P : Program} {w : World} {K : PySem.W.Frag} [LT K] {mg : Str → Option Value} (Z : Fs P w K mg) {vs : List V} {H : Hp} {Q : VK} {E : XK} (h : sp_law K vs H Q E) : t_law Z { nx := fun _ H' => Q .non H', rt := Q } (L2.start N_law vs) H := by
  obtain ⟨sc, ns, F, rfl, hs, hl, ok, k⟩ := h
  refine ⟨_, rfl, sc, ns, F, rfl, hs, hl, ok, fun a c F' H' g hc ha hF hH => ?_⟩
  have okp : Ok K (some a) ⟨F', H', 0⟩ := ⟨g.ok.sub, fun b e => by
    cases e
    exact ⟨⟨c, 0, 0, ns, ha, hc, hl, Int.le_refl _, Int.le_refl _, Int.le_refl _⟩, hF⟩, g.ok.nt, g.ok.tb⟩
  have st : Sta K (some a) ⟨F', H', 0⟩ F' N_law.length 200000000 0 ((L2.start N_law [V.ref sc]).set 1 (some (.ref a))) ⟨F', H', 0⟩ [(1, .val (.ref a))] := by
    refine ⟨okp, Gr.refl okp, fun _ _ q => q, rfl, by show 0 + 200000000 ≤ 1000000000; decide, Nat.le_refl _, fun q hq => ?_, fun x hx b hb ne oa => ?_⟩
    · rw [List.mem_singleton.mp hq]
      exact ⟨.ref a, rfl, rfl⟩
    · rw [List.mem_singleton.mp hx] at oa
      cases oa
  have hz : ∀ {n : Nat}, Nat.ble n 1000 = true → n ≤ sizeLine := fun e => Nat.le_trans (Nat.le_of_ble_eq_true e) (by rw [sizeLine_eq]; exact Nat.le_of_ble_eq_true rfl)
  have pen : ∀ {σ : L2.St} {S : Wd} {l : En} {B : Hp} {M k : Nat}, Sta K (some a) ⟨F', H', 0⟩ B N_law.length M k σ S l → get l 1 = some (.val (.ref a)) → EvV K (some a) (tVar 1) σ S (.ref a) := fun s hg => ev_var s hg
  have long : ∀ {σ : L2.St} {S : Wd} {l : En} {B : Hp} {M k : Nat} (m : Nat), m ≤ 12 → Sta K (some a) ⟨F', H', 0⟩ B N_law.length M k σ S l → get l 1 = some (.val (.ref a)) → EvN K (some a) (tCall (sp__law_long K) [] E0 (tCons (tVar 1) (tCons (tC (.int (m : Int))) tNil))) σ S 200 (fun d => Drn d (2 * m + 1)) := fun m hm s hg =>
    (en_call (n := 1) (N := 200) (pre := fun ds => ∃ m : Nat, h0 ds = .int (m : Int) ∧ m ≤ 12) (post := fun ds d => ∀ m : Nat, h0 ds = .int (m : Int) → Drn d (2 * m + 1)) (ds := [.int (m : Int)]) (pen s hg) (ea_cons ed_int ea_nil) rfl ⟨m, rfl, hm⟩).le (Nat.le_refl _) fun d hd => hd m rfl
  have isE : ∀ {te : TE} {σ : L2.St} {S : Wd} {x : D} {b : Bool}, EvD K (some a) te σ S x → okV x → isSt x = b → EvD K (some a) (tCall (sp_is_statement K) [] E0 (tCons te tNil)) σ S (.bl b) := fun he hv hb =>
    EvD.is (ed_call (n := 1) (pre := fun ds => okV (h0 ds)) (f := fun ds => .bl (isSt (h0 ds))) (ds := [_]) (ea_cons he ea_nil) rfl hv) (congrArg D.bl hb)
  show tSeq _ _ _ _ _
  refine s_seq (s_for (w := 20000) (α := Unit) (fun _ _ => True) (fun _ => [(1, .val (.ref a))]) () st (es_rng1 (z := 8) (eh_cons (EvD.h ed_int) eh_nil) ⟨by decide, by decide⟩) (by decide) True.intro ⟨rfl, True.intro⟩ (fun B' c _ x σ1 S1 hx _ st1 D' hrt nx _ _ => ?_) (fun _ σ1 S1 _ st1 => ?_))
  · have hc : c < 8 := by
      have := (List.getElem?_eq_some_iff.mp hx).1
      rw [rng_len] at this
      exact this
    -- the statement
    have l1 : EvN K (some a) (tCall (sp__law_long K) [] E0 (tCons (tVar 1) (tCons (tCall (sp__law_draw K) [] E0 (tCons (tVar 1) (tCons (tC (.int 12)) tNil))) tNil))) σ1 S1 (1 + 200) (DrP 23) :=
      (en_callN (pen st1 rfl) (en_draw (k := 12) (pen st1 rfl) (by decide) (by decide)) fun d ⟨r, e, r0, r1⟩ => ⟨r.toNat, by show d = _; rw [e]; congr 1; omega, by omega⟩).le (Nat.le_refl _) fun e ⟨d, ⟨r, er, r0, r1⟩, hd⟩ => ⟨_, hd r.toNat (by show d = _; rw [er]; congr 1; omega), by omega⟩
    have l2 : EvN K (some a) (tCall (sp__law_statement K 4) [] E0 (tCons (tVar 1) (tCons (tLst (tCons (tC (.str "coin")) (tCons (tC (.str "tea")) (tCons (tC (.str "a")) tNil)))) (tCons (tC (.int 3)) tNil)))) σ1 S1 (nS 3) (DrP 23) :=
      (en_call (n := 2) (N := nS 3) (pre := stPre 3) (post := fun _ d => DrP (zS 3) d) (ds := [.lst ((["coin", "tea", "a"] : List Str).map D.str), .int 3]) (pen st1 rfl) (ea_cons (EvO.ed (eo_lst (ea_cons ed_str (ea_cons ed_str (ea_cons ed_str ea_nil))) (hz rfl))) (ea_cons ed_int ea_nil)) rfl ⟨["coin", "tea", "a"], 3, rfl, by decide, by decide, sub_atoms (by decide +kernel), rfl, by decide, by decide⟩).le (Nat.le_refl _) fun e ⟨c, g, hc⟩ => ⟨c, g, Nat.le_trans hc (by decide)⟩
    have l3 := (long 11 (by decide) st1 rfl).le (P' := DrP 23) (Nat.le_refl _) fun d hd => ⟨23, hd, Nat.le_refl _⟩
    have some_ := en_lst (ean_cons l1 (ean_cons l2 (ean_cons l3 ean_nil))) (fun ds ⟨_, _, e, _, _, _, e2, _, _, _, e3, _, e4⟩ => by rw [e, e2, e3, e4]; exact hz rfl)
    have stE := (en_callA (nn := 1) (N := 1) (pre := fun ds => ∃ es, itemsD (dAt ds 0) = some es ∧ es ≠ [] ∧ es.length ≤ 1000000) (post := fun ds d => ∃ es, itemsD (dAt ds 0) = some es ∧ d ∈ es) (E := E0) (pen st1 rfl) (ean_cons some_ ean_nil) fun ds ⟨_, _, e, ⟨us, eu, _, _, e1, _, _, _, e2, _, _, _, e3, _, e4⟩, e5⟩ => by
      subst e; subst e5; subst eu; subst e1; subst e2; subst e3; subst e4
      exact ⟨rfl, _, rfl, by simp, by simp⟩).le (P' := DrP 23) (m := 600) (by decide) fun d ⟨ds, ⟨_, _, e, ⟨us, eu, u, _, e1, h1, v, _, e2, h2, w, _, e3, h3, e4⟩, e5⟩, es, e6, hd⟩ => by
      subst e; subst e5; subst eu; subst e1; subst e2; subst e3; subst e4
      cases (show some [u, v, w] = some es from e6)
      simp only [List.mem_cons, List.not_mem_nil, or_false] at hd
      rcases hd with rfl | rfl | rfl
      · exact h1
      · exact h2
      · exact h3
    refine s_seq (s_N st1 stE (by decide) (by omega) fun d σ2 S2 hd st2 => ?_)
    obtain ⟨m, hD, hm⟩ := hd
    dsimp only
    have dp := hD.dep
    have okd := okV_of hD (by omega)
    have isd : isSt d = true := by rw [isSt_of hD]; exact decide_eq_true (by omega)
    have lst : EvN K (some a) (tCall (sp__law_listed K 14) [] E0 (tCons (tVar 1) (tCons (tVar 3) tNil))) σ2 S2 (dbl 13) (fun r => fixD r = d) :=
      (en_call (n := 1) (N := dbl 13) (pre := fun ds => DrP 26 (h0 ds) ∧ dep (h0 ds) ≤ 13 + 1) (post := fun ds r => fixD r = h0 ds) (ds := [d]) (pen st2 rfl) (ea_cons (ed_var (i := 3) st2 rfl) ea_nil) rfl ⟨⟨m, hD, by omega⟩, by show dep d ≤ 14; omega⟩).le (Nat.le_refl _) fun r h => h
    have prt : EvD K (some a) (tCall (sp__law_parts K 14) [] E0 (tCons (tVar 3) tNil)) σ2 S2 (.lst (partsS d)) :=
      ed_call (n := 1) (pre := fun ds => (∃ m, Drn (h0 ds) m ∧ m ≤ 26) ∧ dep (h0 ds) ≤ 13 + 1) (f := fun ds => .lst (partsS (h0 ds))) (ds := [d]) (ea_cons (ed_var (i := 3) st2 rfl) ea_nil) rfl ⟨⟨m, hD, by omega⟩, by show dep d ≤ 14; omega⟩
    have d13 : dbl 13 = 16383 := rfl
    have both := (en_tup (ean_cons lst (ean_cons prt.toN ean_nil)) (fun ds ⟨_, _, e, _, _, _, e2, _, e3⟩ => by rw [e, e2, e3]; exact hz rfl)).le (P' := fun x => ∃ d1 d2, x = .tup [d1, d2] ∧ fixD d1 = d ∧ d2 = .lst (partsS d)) (Nat.le_refl _) fun x ⟨ds, ed, u, _, e1, h1, v, _, e2, h2, e3⟩ => by
      subst ed; subst e1; subst e2; subst e3
      exact ⟨u, v, rfl, h1, h2⟩
    refine s_seq (s_unp2N (i1 := 4) (i2 := 5) st2 both (by decide) (by decide) (by omega) fun r d2 σ3 S3 hr e2 st3 => ?_)
    subst e2
    dsimp only
    have okr := okV_fix hr okd
    have isr : isSt r = true := (same_isSt hr).trans isd
    have plen := parts_len hD.stm
    have psz := hD.size
    refine s_seq (s_dat (d := .bl true) st3 (EvD.is (ed_op (EvD.h (ed_lenR (ed_var (i := 5) st3 rfl) rfl (by omega))) (EvD.h ed_int) (rd_B0 (f := fun i j => decide (i ≤ j)))) (congrArg D.bl (decide_eq_true (by omega)))) (by decide) fun σ4 S4 st4 => ?_)
    dsimp only
    have rcB : RC K (some a) (rRepr K) [.lst [.bl true, .bl true]] (.str (D.lst [.bl true, .bl true]).py.shown) := rc_reprY (by decide) (by decide) (by decide)
    have isK : EvD K (some a) (tCallK (sp_is_statement K) (gv_is_statement_value) E0 tNil (tCons (tVar 4) tNil)) σ4 S4 (.bl true) :=
      EvD.is (ed_callK (n := 1) (pre := fun ds => okV (h0 ds)) (f := fun ds => .bl (isSt (h0 ds))) (ds := [r]) (gD := fun _ => [r]) (ea_cons (ed_var (i := 4) st4 rfl) ea_nil) (fun F vs q => by
        cases q with
        | cons h1 h2 =>
          cases h2
          exact .cons h1 .nil) rfl okr) (congrArg D.bl isr)
    refine s_seq (s_if (b := false) st4 (EvT.is (et_test (ed_op (EvD.h (ed_cb (eh_cons (EvO.h (eo_lst (ea_cons (isE (ed_var (i := 3) st4 rfl) okd isd) (ea_cons isK ea_nil)) (hz rfl))) eh_nil) rcB)) (EvD.h (ed_cb (eh_cons (EvO.h (eo_lst (ea_cons (ed_var (i := 6) st4 rfl) (ea_cons (ed_var (i := 6) st4 rfl) ea_nil)) (hz rfl))) eh_nil) rcB)) rd_neUs)) (by rw [decide_eq_true rfl]; rfl)) (fun z _ _ => by cases z) (fun _ S5 st5 => ?_))
    refine s_next ?_
    dsimp only
    -- what is heard
    have f1 : parts_ofF [r] = some (.tup (partsS d)) := by
      show (if isSt r = true then some (D.tup (partsS (fixD r))) else none) = _
      rw [if_pos isr, hr]
    have f2 : size_ofF [r] = some (.int (sizeS d : Nat)) := by
      show (if isSt r = true then some (D.int (sizeS (fixD r) : Nat)) else none) = _
      rw [if_pos isr, hr]
    have f3 : kinds_ofF [r] = some (kindsT (partsS d)) := by
      show (if isSt r = true then some (kindsT (partsS (fixD r))) else none) = _
      rw [if_pos isr, hr]
    have f4 : statement_textF [r] = some (.str (textS d)) := by
      show (if isSt r = true then some (D.str (textS (fixD r))) else none) = _
      rw [if_pos isr, hr]
    have one : ∀ F vs, Rps K F vs [r] → Rps K F ((fun us zs => match us, zs with | [], [z] => [z] | us, zs => us ++ zs) ([] : List V) vs) [r] := fun F vs q => by
      cases q with
      | cons h1 h2 =>
        cases h2
        exact .cons h1 .nil
    have hv : EvA K (some a) (tCons (tVar 4) tNil) σ4 S5 [r] := ea_cons (ed_var (i := 4) st5 rfl) ea_nil
    have q1 := ed_heardE (HC := HC Z) (C := Z.a_BadStatement) (word := "statement") (x := "statement") (f := parts_ofF) (pre := fun ds => okV (h0 ds)) (n := 1) (ds := [r]) hv rfl okr (fun _ => ⟨rfl, rfl⟩)
    have q2 := ed_heardEK (HC := HC Z) (C := Z.a_BadStatement) (word := "statement") (x := "statement") (f := size_ofF) (pre := fun ds => okV (h0 ds)) (n := 1) (zs := [r]) (ds := [r]) (gV := gv_size_of_statement) hv (fun F vs q => by
      cases q with
      | cons h1 h2 =>
        cases h2
        exact .cons h1 .nil) rfl okr (fun _ => ⟨rfl, rfl⟩)
    have q3 := ed_heardE (HC := HC Z) (C := Z.a_BadStatement) (word := "statement") (x := "statement") (f := kinds_ofF) (pre := fun ds => okV (h0 ds)) (n := 1) (ds := [r]) hv rfl okr (fun _ => ⟨rfl, rfl⟩)
    have q4 := ed_heardEK (HC := HC Z) (C := Z.a_BadStatement) (word := "statement") (x := "statement") (f := statement_textF) (pre := fun ds => okV (h0 ds)) (n := 1) (zs := [r]) (ds := [r]) (gV := gv_statement_text_statement) hv (fun F vs q => by
      cases q with
      | cons h1 h2 =>
        cases h2
        exact .cons h1 .nil) rfl okr (fun _ => ⟨rfl, rfl⟩)
    rw [f1] at q1
    rw [f2] at q2
    rw [f3] at q3
    rw [f4] at q4
    have hear := (en_lst (ean_cons q1 (ean_cons q2 (ean_cons q3 (ean_cons q4 ean_nil)))) (fun ds ⟨_, _, e, _, _, _, e2, _, _, _, e3, _, _, _, e4, _, e5⟩ => by rw [e, e2, e3, e4, e5]; exact hz rfl)).le (P' := fun x => x = .lst (dueL d)) (Nat.le_refl _) fun x ⟨ds, ed, u, _, e1, h1, v, _, e2, h2, w, _, e3, h3, y, _, e4, h4, e5⟩ => by
      subst ed; subst e1; subst e2; subst e3; subst e4; subst e5; subst h1; subst h2; subst h3; subst h4
      rfl
    refine s_seq (s_N st5 hear (by decide) (by omega) fun dh σ6 S6 hh st6 => ?_)
    subst hh
    dsimp only
    -- the kinds
    have lc := eo_lc (K := K) (i := 9) (vs := [9]) (b := isKind) (f := fun x => x) (te := tVar 9) (tt := tAnd (tB (tCB (rIsi K) (tCons (tVar 9) (tCons (tC (.ty "str")) tNil)))) (tTest (tOp (rNinV K) (tVar 9) (tTup (tCons (tC (.str "nothing")) (tCons (tC (.str "any")) (tCons (tC (.str "no")) tNil)))))))
      st6 (es_list (ed_var (i := 5) st6 rfl)) (by decide) rfl (fun x hx B' n' σ' S' st' => ⟨by
        have mx := mild_kn (parts_mild hD.stm hD.mild x hx)
        have t1 := et_str (ed_var (i := 9) st' rfl) mx
        by_cases hs : ∃ s, x = .str s
        · obtain ⟨s, rfl⟩ := hs
          have tb : EvD K (some a) (tTup (tCons (tC (.str "nothing")) (tCons (tC (.str "any")) (tCons (tC (.str "no")) tNil)))) σ' S' (.tup (bareL.map D.str)) := ed_tup (ea_cons ed_str (ea_cons ed_str (ea_cons ed_str ea_nil))) (hz rfl)
          refine EvT.is (et_and t1 fun _ => et_test (ed_op (EvD.h (ed_var (i := 9) st' rfl)) (EvD.h tb) (rd_ninT2 rfl (flat_str bareL)))) ?_
          show (true && !inD (.str s) (bareL.map D.str)) = isKind (.str s)
          rw [inD_str, kind_str, Bool.true_and]
        · have e : isStrD x = false := by cases x <;> first | rfl | exact absurd ⟨_, rfl⟩ hs
          rw [e] at t1
          exact EvT.is (et_andF t1) (kind_no e).symm, fun _ => ed_var (i := 9) st' rfl⟩) (lt_line (by omega))
    rw [(kinds_map (partsS d)).2] at lc
    have kfew := kinds_few (partsS d)
    have ushort := uniq_short (kindsOf (partsS d))
    refine s_seq (s_dat (d := kindsT (partsS d)) st6 (ed_tuple (EvO.q (eo_sortSetS (EvO.q lc) (by omega) (by omega)))) (by decide) fun σ7 S7 st7 => ?_)
    dsimp only
    have txt : EvD K (some a) (tCall (sp__law_text K) [] E0 (tCons (tVar 3) tNil)) σ7 S7 (.str (textS d)) :=
      ed_call (n := 1) (pre := fun ds => ∃ m, Drn (h0 ds) m ∧ m ≤ 26) (f := fun ds => .str (textS (h0 ds))) (ds := [d]) (ea_cons (ed_var (i := 3) st7 rfl) ea_nil) rfl ⟨m, hD, by omega⟩
    have due : EvO K (some a) (tLst (tCons (tLst (tCons (tCB (rTuple K) (tCons (tVar 5) tNil)) tNil)) (tCons (tLst (tCons (tCB (rLenA K) (tCons (tVar 5) tNil)) tNil)) (tCons (tLst (tCons (tVar 8) tNil)) (tCons (tLst (tCons (tCall (sp__law_text K) [] E0 (tCons (tVar 3) tNil)) tNil)) tNil))))) σ7 S7 (dueL d) :=
      eo_lst (ea_cons (EvO.ed (eo_lst (ea_cons (ed_tuple (EvD.ql (ed_var (i := 5) st7 rfl))) ea_nil) (hz rfl))) (ea_cons (EvO.ed (eo_lst (ea_cons (EvD.is (ed_lenR (ed_var (i := 5) st7 rfl) rfl (by omega)) (congrArg (fun n : Nat => D.int n) plen)) ea_nil) (hz rfl))) (ea_cons (EvO.ed (eo_lst (ea_cons (ed_var (i := 8) st7 rfl) ea_nil) (hz rfl))) (ea_cons (EvO.ed (eo_lst (ea_cons txt ea_nil) (hz rfl))) ea_nil)))) (hz rfl)
    refine s_seq (s_dat (d := .lst (dueL d)) st7 (ed_if (b := true) (et_B (ed_var (i := 6) st7 rfl)) (fun _ => EvO.ed due) (fun z => by cases z)) (by decide) fun σ8 S8 st8 => ?_)
    dsimp only
    obtain ⟨y1, y2, y3⟩ := due_showy hD (by omega)
    obtain ⟨p1, p2, p3⟩ := showy_parts hD (by omega)
    have shP : (D.tup (partsS d)).sh = true := showy_sh (by simpa only [showy] using p1) (by simp only [dep]; omega)
    have g1 : parts_ofF [d] = some (.tup (partsS d)) := by
      show (if isSt d = true then some (D.tup (partsS (fixD d))) else none) = _
      rw [if_pos isd, hD.fix]
    have pK : EvD K (some a) (tCallK (sp_parts_of K Z.a_BadStatement) (gv_parts_of_statement) E0 tNil (tCons (tVar 3) tNil)) σ8 S8 (.tup (partsS d)) :=
      ed_callEK (ds := [d]) (gD := fun _ => [d]) (ea_cons (ed_var (i := 3) st8 rfl) ea_nil) (fun F vs q => by
        cases q with
        | cons h1 h2 =>
          cases h2
          exact .cons h1 .nil) rfl okd g1
    have rcX : RC K (some a) (rRepr K) [.lst (dueL d)] (.str (D.lst (dueL d)).py.shown) := rc_reprY y1 y2 y3
    have no1 := EvT.is (b := false) (et_test (ed_op (EvD.h (ed_cb (eh_cons (EvD.h (ed_var (i := 7) st8 rfl)) eh_nil) rcX)) (EvD.h (ed_cb (eh_cons (EvD.h (ed_var (i := 10) st8 rfl)) eh_nil) rcX)) rd_neUs)) (by rw [decide_eq_true rfl]; rfl)
    refine s_seq (s_if (b := false) st8 (EvT.is (et_or (a := false) (b := false) no1 fun _ => EvT.is (et_and (a := true) (b := false) (et_B (ed_var (i := 6) st8 rfl)) fun _ => et_test (ed_op (EvD.h pK) (EvD.h (ed_tuple (EvD.ql (ed_var (i := 5) st8 rfl)))) (rd_neSame shP))) rfl) rfl) (fun z _ _ => by cases z) (fun _ S9 st9 => ?_))
    refine s_next ?_
    dsimp only
    -- bent
    have bn : EvN K (some a) (tCall (sp__law_bent K 14) [] E0 (tCons (tVar 1) (tCons (tVar 3) tNil))) σ8 S9 (3 * (13 + 1)) (BP d) :=
      (en_call (n := 1) (N := 3 * (13 + 1)) (pre := fun ds => DrP 26 (h0 ds) ∧ dep (h0 ds) ≤ 13 + 1) (post := fun ds d => BP (h0 ds) d) (ds := [d]) (pen st9 rfl) (ea_cons (ed_var (i := 3) st9 rfl) ea_nil) rfl ⟨⟨m, hD, by omega⟩, by show dep d ≤ 14; omega⟩).le (Nat.le_refl _) fun d h => h
    refine s_seq (s_N st9 bn (by decide) (by omega) fun b σ10 S10 hb st10 => ?_)
    obtain ⟨b1, b2, b3⟩ := hb
    dsimp only
    have okb : okV b := ⟨b2, by have := okd.2; have := hD.sz; omega⟩
    have isb := bad_no b1
    have hvb : EvA K (some a) (tCons (tVar 11) tNil) σ10 S10 [b] := ea_cons (ed_var (i := 11) st10 rfl) ea_nil
    have nob : ∀ v : D, (if isSt b = true then some v else none) = none := fun v => if_neg (by rw [isb]; decide)
    have r1 := ed_heardE (HC := HC Z) (C := Z.a_BadStatement) (word := "statement") (x := "statement") (f := parts_ofF) (pre := fun ds => okV (h0 ds)) (n := 1) (ds := [b]) hvb rfl okb (fun _ => ⟨rfl, rfl⟩)
    have r2 := ed_heardE (HC := HC Z) (C := Z.a_BadStatement) (word := "statement") (x := "statement") (f := size_ofF) (pre := fun ds => okV (h0 ds)) (n := 1) (ds := [b]) hvb rfl okb (fun _ => ⟨rfl, rfl⟩)
    have r3 := ed_heardE (HC := HC Z) (C := Z.a_BadStatement) (word := "statement") (x := "statement") (f := kinds_ofF) (pre := fun ds => okV (h0 ds)) (n := 1) (ds := [b]) hvb rfl okb (fun _ => ⟨rfl, rfl⟩)
    have r4 := ed_heardE (HC := HC Z) (C := Z.a_BadStatement) (word := "statement") (x := "statement") (f := statement_textF) (pre := fun ds => okV (h0 ds)) (n := 1) (ds := [b]) hvb rfl okb (fun _ => ⟨rfl, rfl⟩)
    rw [show parts_ofF [b] = none from nob _] at r1
    rw [show size_ofF [b] = none from nob _] at r2
    rw [show kinds_ofF [b] = none from nob _] at r3
    rw [show statement_textF [b] = none from nob _] at r4
    have hear2 := (en_lst (ean_cons r1 (ean_cons r2 (ean_cons r3 (ean_cons r4 ean_nil)))) (fun ds ⟨_, _, e, _, _, _, e2, _, _, _, e3, _, _, _, e4, _, e5⟩ => by rw [e, e2, e3, e4, e5]; exact hz rfl)).le (P' := fun x => x = .lst [nope, nope, nope, nope]) (Nat.le_refl _) fun x ⟨ds, ed, u, _, e1, h1, v, _, e2, h2, w, _, e3, h3, y, _, e4, h4, e5⟩ => by
      subst ed; subst e1; subst e2; subst e3; subst e4; subst e5; subst h1; subst h2; subst h3; subst h4
      rfl
    refine s_seq (s_N st10 hear2 (by decide) (by omega) fun dh σ11 S11 hh st11 => ?_)
    subst hh
    dsimp only
    have rep : EvO K (some a) (tOp rMulU (tLst (tCons (tTup (tCons (tC (.str "statement")) (tCons (tC (.str "statement")) tNil))) tNil)) (tC (.int 4))) σ11 S11 [nope, nope, nope, nope] :=
      eo_repU (k := 4) (EvO.q (eo_lst (ds := [nope]) (ea_cons (ed_tup (ea_cons ed_str (ea_cons ed_str ea_nil)) (hz rfl)) ea_nil) (hz rfl))) ed_int ⟨by decide, by decide⟩ (hz rfl)
    refine s_if (b := false) st11 (EvT.is (et_or (a := false) (b := false) (EvT.is (et_test (ed_op (EvD.h (isE (ed_var (i := 11) st11 rfl) okb isb)) (EvD.h ed_bl) rd_notB)) rfl) fun _ => et_test (ed_op (EvD.h (ed_var (i := 7) st11 rfl)) (EvO.h rep) (rd_neSame nope_sh))) rfl) (fun z _ _ => by cases z) (fun _ S12 st12 => ?_)
    refine s_next ?_
    exact nx () _ S12 _ True.intro (st12.more (by omega)) ⟨rfl, True.intro⟩
  · rw [rng_len] at st1
    refine s_seq (s_par (i := 12) (j := 13) st1 (EvN.x (long 11 (by decide) st1 rfl)) (EvN.x (long 12 (by decide) st1 rfl)) (by decide) (by decide) (by decide) (by omega) fun t1 t2 σ2 S2 e1 e2 st2 => ?_)
    obtain ⟨x, rfl, gx⟩ := e1
    obtain ⟨y, rfl, gy⟩ := e2
    dsimp only
    have w1 : EvO K (some a) (tLst (tCons (tCall (sp_is_statement K) [] E0 (tCons (tVar 12) tNil)) (tCons (tCall (sp_is_statement K) [] E0 (tCons (tVar 13) tNil)) tNil))) σ2 S2 [.bl true, .bl false] :=
      eo_lst (ea_cons (isE (ed_var (i := 12) st2 rfl) (okV_of gx (by decide)) (isSt_of gx)) (ea_cons (isE (ed_var (i := 13) st2 rfl) (okV_of gy (by decide)) (isSt_of gy)) ea_nil)) (hz rfl)
    have w2 : EvO K (some a) (tLst (tCons (tC (.bl true)) (tCons (tC (.bl false)) tNil))) σ2 S2 [.bl true, .bl false] := eo_lst (ea_cons ed_bl (ea_cons ed_bl ea_nil)) (hz rfl)
    have anyK : kinds_ofF [.str "any"] = some (.tup []) := by
      show (if isSt (.str "any") = true then some (kindsT (partsS (fixD (.str "any")))) else none) = _
      rw [if_pos (by decide +kernel)]
      rfl
    have w3 : EvD K (some a) (tCall (sp_kinds_of K Z.a_BadStatement) [] E0 (tCons (tC (.str "any")) tNil)) σ2 S2 (.tup []) := ed_callE (ds := [.str "any"]) (ea_cons ed_str ea_nil) rfl ⟨by decide +kernel, by decide⟩ anyK
    have txtK : statement_textF [.tup [.str "gives", .str "a", .tup [.str "or", .str "no", .str "b"]]] = some (.str "gives a or no b") := by
      show (if isSt (.tup [.str "gives", .str "a", .tup [.str "or", .str "no", .str "b"]]) = true then some (D.str (textS (fixD (.tup [.str "gives", .str "a", .tup [.str "or", .str "no", .str "b"]])))) else none) = _
      rw [if_pos (by decide +kernel)]
      have : textS (fixD (.tup [.str "gives", .str "a", .tup [.str "or", .str "no", .str "b"]])) = ("gives a or no b" : String) := by decide +kernel
      rw [this]
    have w4 : EvD K (some a) (tCall (sp_statement_text K Z.a_BadStatement) [] E0 (tCons (tTup (tCons (tC (.str "gives")) (tCons (tC (.str "a")) (tCons (tTup (tCons (tC (.str "or")) (tCons (tC (.str "no")) (tCons (tC (.str "b")) tNil)))) tNil)))) tNil)) σ2 S2 (.str "gives a or no b") :=
      ed_callE (ds := [.tup [.str "gives", .str "a", .tup [.str "or", .str "no", .str "b"]]]) (ea_cons (ed_tup (ea_cons ed_str (ea_cons ed_str (ea_cons (ed_tup (ea_cons ed_str (ea_cons ed_str (ea_cons ed_str ea_nil))) (hz rfl)) ea_nil))) (hz rfl)) ea_nil) rfl ⟨by decide +kernel, by decide⟩ txtK
    have t1 : EvD K (some a) _ σ2 S2 (.bl true) := ed_op (EvO.h w1) (EvO.h w2) (rd_eqSame (d := .lst [.bl true, .bl false]) (by decide +kernel))
    have t2 : EvD K (some a) _ σ2 S2 (.bl true) := ed_op (EvD.h w3) (EvD.h (ed_tup ea_nil (hz rfl))) (rd_eqSame (d := .tup []) (by decide +kernel))
    have t3 : EvD K (some a) _ σ2 S2 (.bl true) := EvD.is (ed_op (EvD.h w4) (EvD.h (ed_str (i := "gives a or no b"))) rd_eqUs) (congrArg D.bl (decide_eq_true rfl))
    refine s_ret st2 (EvD.is (ed_and (a := true) (b := true) t1 fun _ => EvD.is (ed_and (a := true) (b := true) t2 fun _ => t3) rfl) rfl) (fun v S' g t r => ?_)
    cases r
    exact k S'.H
theorem ok_law {P : Program} {w : World} {K : PySem.W.Frag} [LT K] {mg : Str → Option Value} {base : Heap} (Z : Fs P w K mg) (TB : LamX.TabB base mg Z.c_law Z.p_law) (hmT : (Z.p_law, lamQ "law") ∈ LT.tabs K) (huT : ∀ q ∈ LT.tabs K, q.1 = Z.p_law → q.2 = lamQ "law") : GnOk P w K mg base CX0 18 Z.a_law Z.d_law ["script"] (sp_law K) :=
  gn_okC Z.C_law sc_law (fun _ _ _ _ h => ln_law h) (fun A outer s H vs Q E hG hr h => ⟨t_law Z, ps_law Z TB hmT huT hG hr, rd_law Z h⟩)
theorem kb_is_statement_value {K : PySem.W.Frag} {f : Addr} {fd : FuncData} (F : Fun K "is_statement" "is_statement" s_is_statement f fd) : KBinds K fd ["value"] ["value"] gv_is_statement_value gv_is_statement_value :=
  kbinds_mk F (fun _ _ _ _ _ _ us ws hl => match us, ws, hl with
    | [], [_], _ => rfl) (fun {vs us zs ws} r q => by
      cases r with
      | cons _ _ => exact .nil
      | nil => (cases q with | nil => exact .nil | cons h0 q1 => (cases q1 with | cons _ _ => exact .nil | nil => exact .cons h0 (.nil))))
theorem kb_parts_of_statement {K : PySem.W.Frag} {f : Addr} {fd : FuncData} (F : Fun K "parts_of" "parts_of" s_parts_of f fd) : KBinds K fd ["statement"] ["statement"] gv_parts_of_statement gv_parts_of_statement :=
  kbinds_mk F (fun _ _ _ _ _ _ us ws hl => match us, ws, hl with
    | [], [_], _ => rfl) (fun {vs us zs ws} r q => by
      cases r with
      | cons _ _ => exact .nil
      | nil => (cases q with | nil => exact .nil | cons h0 q1 => (cases q1 with | cons _ _ => exact .nil | nil => exact .cons h0 (.nil))))
theorem kb_size_of_statement {K : PySem.W.Frag} {f : Addr} {fd : FuncData} (F : Fun K "size_of" "size_of" s_size_of f fd) : KBinds K fd ["statement"] ["statement"] gv_size_of_statement gv_size_of_statement :=
  kbinds_mk F (fun _ _ _ _ _ _ us ws hl => match us, ws, hl with
    | [], [_], _ => rfl) (fun {vs us zs ws} r q => by
      cases r with
      | cons _ _ => exact .nil
      | nil => (cases q with | nil => exact .nil | cons h0 q1 => (cases q1 with | cons _ _ => exact .nil | nil => exact .cons h0 (.nil))))
theorem kb_statement_text_statement {K : PySem.W.Frag} {f : Addr} {fd : FuncData} (F : Fun K "statement_text" "statement_text" s_statement_text f fd) : KBinds K fd ["statement"] ["statement"] gv_statement_text_statement gv_statement_text_statement :=
  kbinds_mk F (fun _ _ _ _ _ _ us ws hl => match us, ws, hl with
    | [], [_], _ => rfl) (fun {vs us zs ws} r q => by
      cases r with
      | cons _ _ => exact .nil
      | nil => (cases q with | nil => exact .nil | cons h0 q1 => (cases q1 with | cons _ _ => exact .nil | nil => exact .cons h0 (.nil))))
theorem all_mk {l : PySem.W.OpenLaw} {q : Program} {w : World} {K : PySem.W.Frag} {h : Heap} {mg : Str → Option Value} {fa : Addr} (X : K.In h) (G : h.Ns mainGlobals mg) (hfa : mg "law" = some (.ref fa)) (hrec : ∃ d, (PyProof.Rows.recsOf q).find? (fun e => e.name == ("law" : Str)) = some d)
    {a_is_row : Addr} {oc_is_row kV_is_row dc_is_row pm_is_row cd_is_row ct_is_row : Value} {od_is_row an_is_row : Option Addr} {sl_is_row : Array (Option Value)}
    {a_is_name : Addr} {oc_is_name kV_is_name dc_is_name pm_is_name cd_is_name ct_is_name : Value} {od_is_name an_is_name : Option Addr} {sl_is_name : Array (Option Value)}
    {a_fixed : Addr} {oc_fixed kV_fixed dc_fixed pm_fixed cd_fixed ct_fixed : Value} {od_fixed an_fixed : Option Addr} {sl_fixed : Array (Option Value)}
    {a_statement_in : Addr} {oc_statement_in kV_statement_in dc_statement_in pm_statement_in cd_statement_in ct_statement_in : Value} {od_statement_in an_statement_in : Option Addr} {sl_statement_in : Array (Option Value)}
    {a_is_statement : Addr} {oc_is_statement kV_is_statement dc_is_statement pm_is_statement cd_is_statement ct_is_statement : Value} {od_is_statement an_is_statement : Option Addr} {sl_is_statement : Array (Option Value)}
    {a_need_statement : Addr} {oc_need_statement kV_need_statement dc_need_statement pm_need_statement cd_need_statement ct_need_statement : Value} {od_need_statement an_need_statement : Option Addr} {sl_need_statement : Array (Option Value)}
    {T_need_statement : Addr} {oT_need_statement : Obj}
    {a_parts_in : Addr} {oc_parts_in kV_parts_in dc_parts_in pm_parts_in cd_parts_in ct_parts_in : Value} {od_parts_in an_parts_in : Option Addr} {sl_parts_in : Array (Option Value)}
    {a_is_kind : Addr} {oc_is_kind kV_is_kind dc_is_kind pm_is_kind cd_is_kind ct_is_kind : Value} {od_is_kind an_is_kind : Option Addr} {sl_is_kind : Array (Option Value)}
    {a_kinds_in : Addr} {oc_kinds_in kV_kinds_in dc_kinds_in pm_kinds_in cd_kinds_in ct_kinds_in : Value} {od_kinds_in an_kinds_in : Option Addr} {sl_kinds_in : Array (Option Value)}
    {a_text_in : Addr} {oc_text_in kV_text_in dc_text_in pm_text_in cd_text_in ct_text_in : Value} {od_text_in an_text_in : Option Addr} {sl_text_in : Array (Option Value)}
    {a_parts_of : Addr} {oc_parts_of kV_parts_of dc_parts_of pm_parts_of cd_parts_of ct_parts_of : Value} {od_parts_of an_parts_of : Option Addr} {sl_parts_of : Array (Option Value)}
    {a_size_of : Addr} {oc_size_of kV_size_of dc_size_of pm_size_of cd_size_of ct_size_of : Value} {od_size_of an_size_of : Option Addr} {sl_size_of : Array (Option Value)}
    {a_kinds_of : Addr} {oc_kinds_of kV_kinds_of dc_kinds_of pm_kinds_of cd_kinds_of ct_kinds_of : Value} {od_kinds_of an_kinds_of : Option Addr} {sl_kinds_of : Array (Option Value)}
    {a_statement_text : Addr} {oc_statement_text kV_statement_text dc_statement_text pm_statement_text cd_statement_text ct_statement_text : Value} {od_statement_text an_statement_text : Option Addr} {sl_statement_text : Array (Option Value)}
    {a__law_pen : Addr} {oc__law_pen kV__law_pen dc__law_pen pm__law_pen cd__law_pen ct__law_pen : Value} {od__law_pen an__law_pen : Option Addr} {sl__law_pen : Array (Option Value)}
    {a__law_draw : Addr} {oc__law_draw kV__law_draw dc__law_draw pm__law_draw cd__law_draw ct__law_draw : Value} {od__law_draw an__law_draw : Option Addr} {sl__law_draw : Array (Option Value)}
    {a__law_pick : Addr} {oc__law_pick kV__law_pick dc__law_pick pm__law_pick cd__law_pick ct__law_pick : Value} {od__law_pick an__law_pick : Option Addr} {sl__law_pick : Array (Option Value)}
    {a__law_heard : Addr} {oc__law_heard kV__law_heard dc__law_heard pm__law_heard cd__law_heard ct__law_heard : Value} {od__law_heard an__law_heard : Option Addr} {sl__law_heard : Array (Option Value)}
    {a__law_parts : Addr} {oc__law_parts kV__law_parts dc__law_parts pm__law_parts cd__law_parts ct__law_parts : Value} {od__law_parts an__law_parts : Option Addr} {sl__law_parts : Array (Option Value)}
    {a__law_text : Addr} {oc__law_text kV__law_text dc__law_text pm__law_text cd__law_text ct__law_text : Value} {od__law_text an__law_text : Option Addr} {sl__law_text : Array (Option Value)}
    {a__law_statement : Addr} {oc__law_statement kV__law_statement dc__law_statement pm__law_statement cd__law_statement ct__law_statement : Value} {od__law_statement an__law_statement : Option Addr} {sl__law_statement : Array (Option Value)}
    {a__law_listed : Addr} {oc__law_listed kV__law_listed dc__law_listed pm__law_listed cd__law_listed ct__law_listed : Value} {od__law_listed an__law_listed : Option Addr} {sl__law_listed : Array (Option Value)}
    {a__law_long : Addr} {oc__law_long kV__law_long dc__law_long pm__law_long cd__law_long ct__law_long : Value} {od__law_long an__law_long : Option Addr} {sl__law_long : Array (Option Value)}
    {a__law_bent : Addr} {oc__law_bent kV__law_bent dc__law_bent pm__law_bent cd__law_bent ct__law_bent : Value} {od__law_bent an__law_bent : Option Addr} {sl__law_bent : Array (Option Value)}
    {a_law c_law : Addr} {oc_law kV_law dc_law pm_law ct_law : Value} {od_law an_law : Option Addr} {sl_law : Array (Option Value)}
    {p_law : Addr}
    {wl_law : Value} {wd_law : Option Addr} {wv_law : Array Value} {ws_law : Array (Option Value)}
    {a_BadCode : Addr}
    {a_BadLibrary : Addr}
    {a_BadNumber : Addr}
    {a_BadPaper : Addr}
    {a_BadSheet : Addr}
    {a_BadStatement : Addr}
    {a_BadValue : Addr}
    {a_BadWay : Addr}
    {a_Misfit : Addr}
    {a_PaidError : Addr}
    {a_PartError : Addr}
    {a_PartI : Addr}
    {nm_BadStatement qn_BadStatement : Str} {N_BadStatement : Addr} {bs_BadStatement bm_BadStatement : List Value} {sn_BadStatement : List Str} {sub_BadStatement : List Value} {ab_BadStatement : Bool} {col_BadStatement : Option Bool} {dd_BadStatement : Option Addr} {m0_BadStatement m1_BadStatement m2_BadStatement m3_BadStatement m5_BadStatement : Option Value}
    {cc_PartI ci_PartI : Addr} {oc_PartI dc_PartI pm_PartI ct_PartI : Value} {od_PartI : Option Addr} {sl_PartI : Array (Option Value)} {ql_PartI : Value} {qd_PartI : Option Addr} {qs_PartI : Array (Option Value)} {kl_PartI : Value} {kd_PartI : Option Addr} {kv_PartI : Array Value} {ks_PartI : Array (Option Value)} {file_PartI : Str} {ft_PartI : Tok}
    {a_BARE : Addr} {o_BARE : Obj}
    {a_JOINS : Addr} {o_JOINS : Obj}
    {t_LETTERS : Tok}
    {t_MOST_PARTS : Tok}
    {t_MOST_SIGNS : Tok}
    {a_WORDS : Addr} {o_WORDS : Obj}
    (ais_row : PySem.W.nsIn K mainGlobals "is_row" = some (some (.ref a_is_row)))
    (lis_row : K.lookup a_is_row = some ⟨oc_is_row, od_is_row, .func (PySem.W.fnOf "is_row" "is_row" (defArgs s_is_row) (defBody s_is_row) (defScope s_is_row) .none kV_is_row dc_is_row pm_is_row an_is_row cd_is_row ct_is_row), sl_is_row⟩)
    (cis_row : PySem.W.codeIn K cd_is_row "is_row" = true)
    (kis_row : PySem.W.keepIn K (.ref a_is_row) = true)
    (ais_name : PySem.W.nsIn K mainGlobals "is_name" = some (some (.ref a_is_name)))
    (lis_name : K.lookup a_is_name = some ⟨oc_is_name, od_is_name, .func (PySem.W.fnOf "is_name" "is_name" (defArgs s_is_name) (defBody s_is_name) (defScope s_is_name) .none kV_is_name dc_is_name pm_is_name an_is_name cd_is_name ct_is_name), sl_is_name⟩)
    (cis_name : PySem.W.codeIn K cd_is_name "is_name" = true)
    (kis_name : PySem.W.keepIn K (.ref a_is_name) = true)
    (afixed : PySem.W.nsIn K mainGlobals "fixed" = some (some (.ref a_fixed)))
    (lfixed : K.lookup a_fixed = some ⟨oc_fixed, od_fixed, .func (PySem.W.fnOf "fixed" "fixed" (defArgs s_fixed) (defBody s_fixed) (defScope s_fixed) .none kV_fixed dc_fixed pm_fixed an_fixed cd_fixed ct_fixed), sl_fixed⟩)
    (cfixed : PySem.W.codeIn K cd_fixed "fixed" = true)
    (kfixed : PySem.W.keepIn K (.ref a_fixed) = true)
    (astatement_in : PySem.W.nsIn K mainGlobals "statement_in" = some (some (.ref a_statement_in)))
    (lstatement_in : K.lookup a_statement_in = some ⟨oc_statement_in, od_statement_in, .func (PySem.W.fnOf "statement_in" "statement_in" (defArgs s_statement_in) (defBody s_statement_in) (defScope s_statement_in) .none kV_statement_in dc_statement_in pm_statement_in an_statement_in cd_statement_in ct_statement_in), sl_statement_in⟩)
    (cstatement_in : PySem.W.codeIn K cd_statement_in "statement_in" = true)
    (kstatement_in : PySem.W.keepIn K (.ref a_statement_in) = true)
    (ais_statement : PySem.W.nsIn K mainGlobals "is_statement" = some (some (.ref a_is_statement)))
    (lis_statement : K.lookup a_is_statement = some ⟨oc_is_statement, od_is_statement, .func (PySem.W.fnOf "is_statement" "is_statement" (defArgs s_is_statement) (defBody s_is_statement) (defScope s_is_statement) .none kV_is_statement dc_is_statement pm_is_statement an_is_statement cd_is_statement ct_is_statement), sl_is_statement⟩)
    (cis_statement : PySem.W.codeIn K cd_is_statement "is_statement" = true)
    (kis_statement : PySem.W.keepIn K (.ref a_is_statement) = true)
    (aneed_statement : PySem.W.nsIn K mainGlobals "need_statement" = some (some (.ref a_need_statement)))
    (lneed_statement : K.lookup a_need_statement = some ⟨oc_need_statement, od_need_statement, .func (PySem.W.fnOf "need_statement" "need_statement" (defArgs s_need_statement) (defBody s_need_statement) (defScope s_need_statement) (.ref T_need_statement) kV_need_statement dc_need_statement pm_need_statement an_need_statement cd_need_statement ct_need_statement), sl_need_statement⟩)
    (cneed_statement : PySem.W.codeIn K cd_need_statement "need_statement" = true)
    (kneed_statement : PySem.W.keepIn K (.ref a_need_statement) = true)
    (lTneed_statement : K.lookup T_need_statement = some oT_need_statement)
    (tTneed_statement : tupStr oT_need_statement ["statement"] = true)
    (aparts_in : PySem.W.nsIn K mainGlobals "parts_in" = some (some (.ref a_parts_in)))
    (lparts_in : K.lookup a_parts_in = some ⟨oc_parts_in, od_parts_in, .func (PySem.W.fnOf "parts_in" "parts_in" (defArgs s_parts_in) (defBody s_parts_in) (defScope s_parts_in) .none kV_parts_in dc_parts_in pm_parts_in an_parts_in cd_parts_in ct_parts_in), sl_parts_in⟩)
    (cparts_in : PySem.W.codeIn K cd_parts_in "parts_in" = true)
    (kparts_in : PySem.W.keepIn K (.ref a_parts_in) = true)
    (ais_kind : PySem.W.nsIn K mainGlobals "is_kind" = some (some (.ref a_is_kind)))
    (lis_kind : K.lookup a_is_kind = some ⟨oc_is_kind, od_is_kind, .func (PySem.W.fnOf "is_kind" "is_kind" (defArgs s_is_kind) (defBody s_is_kind) (defScope s_is_kind) .none kV_is_kind dc_is_kind pm_is_kind an_is_kind cd_is_kind ct_is_kind), sl_is_kind⟩)
    (cis_kind : PySem.W.codeIn K cd_is_kind "is_kind" = true)
    (kis_kind : PySem.W.keepIn K (.ref a_is_kind) = true)
    (akinds_in : PySem.W.nsIn K mainGlobals "kinds_in" = some (some (.ref a_kinds_in)))
    (lkinds_in : K.lookup a_kinds_in = some ⟨oc_kinds_in, od_kinds_in, .func (PySem.W.fnOf "kinds_in" "kinds_in" (defArgs s_kinds_in) (defBody s_kinds_in) (defScope s_kinds_in) .none kV_kinds_in dc_kinds_in pm_kinds_in an_kinds_in cd_kinds_in ct_kinds_in), sl_kinds_in⟩)
    (ckinds_in : PySem.W.codeIn K cd_kinds_in "kinds_in" = true)
    (kkinds_in : PySem.W.keepIn K (.ref a_kinds_in) = true)
    (atext_in : PySem.W.nsIn K mainGlobals "text_in" = some (some (.ref a_text_in)))
    (ltext_in : K.lookup a_text_in = some ⟨oc_text_in, od_text_in, .func (PySem.W.fnOf "text_in" "text_in" (defArgs s_text_in) (defBody s_text_in) (defScope s_text_in) .none kV_text_in dc_text_in pm_text_in an_text_in cd_text_in ct_text_in), sl_text_in⟩)
    (ctext_in : PySem.W.codeIn K cd_text_in "text_in" = true)
    (ktext_in : PySem.W.keepIn K (.ref a_text_in) = true)
    (aparts_of : PySem.W.nsIn K mainGlobals "parts_of" = some (some (.ref a_parts_of)))
    (lparts_of : K.lookup a_parts_of = some ⟨oc_parts_of, od_parts_of, .func (PySem.W.fnOf "parts_of" "parts_of" (defArgs s_parts_of) (defBody s_parts_of) (defScope s_parts_of) .none kV_parts_of dc_parts_of pm_parts_of an_parts_of cd_parts_of ct_parts_of), sl_parts_of⟩)
    (cparts_of : PySem.W.codeIn K cd_parts_of "parts_of" = true)
    (kparts_of : PySem.W.keepIn K (.ref a_parts_of) = true)
    (asize_of : PySem.W.nsIn K mainGlobals "size_of" = some (some (.ref a_size_of)))
    (lsize_of : K.lookup a_size_of = some ⟨oc_size_of, od_size_of, .func (PySem.W.fnOf "size_of" "size_of" (defArgs s_size_of) (defBody s_size_of) (defScope s_size_of) .none kV_size_of dc_size_of pm_size_of an_size_of cd_size_of ct_size_of), sl_size_of⟩)
    (csize_of : PySem.W.codeIn K cd_size_of "size_of" = true)
    (ksize_of : PySem.W.keepIn K (.ref a_size_of) = true)
    (akinds_of : PySem.W.nsIn K mainGlobals "kinds_of" = some (some (.ref a_kinds_of)))
    (lkinds_of : K.lookup a_kinds_of = some ⟨oc_kinds_of, od_kinds_of, .func (PySem.W.fnOf "kinds_of" "kinds_of" (defArgs s_kinds_of) (defBody s_kinds_of) (defScope s_kinds_of) .none kV_kinds_of dc_kinds_of pm_kinds_of an_kinds_of cd_kinds_of ct_kinds_of), sl_kinds_of⟩)
    (ckinds_of : PySem.W.codeIn K cd_kinds_of "kinds_of" = true)
    (kkinds_of : PySem.W.keepIn K (.ref a_kinds_of) = true)
    (astatement_text : PySem.W.nsIn K mainGlobals "statement_text" = some (some (.ref a_statement_text)))
    (lstatement_text : K.lookup a_statement_text = some ⟨oc_statement_text, od_statement_text, .func (PySem.W.fnOf "statement_text" "statement_text" (defArgs s_statement_text) (defBody s_statement_text) (defScope s_statement_text) .none kV_statement_text dc_statement_text pm_statement_text an_statement_text cd_statement_text ct_statement_text), sl_statement_text⟩)
    (cstatement_text : PySem.W.codeIn K cd_statement_text "statement_text" = true)
    (kstatement_text : PySem.W.keepIn K (.ref a_statement_text) = true)
    (a_law_pen : PySem.W.nsIn K mainGlobals "_law_pen" = some (some (.ref a__law_pen)))
    (l_law_pen : K.lookup a__law_pen = some ⟨oc__law_pen, od__law_pen, .func (PySem.W.fnOf "_law_pen" "_law_pen" (defArgs s__law_pen) (defBody s__law_pen) (defScope s__law_pen) .none kV__law_pen dc__law_pen pm__law_pen an__law_pen cd__law_pen ct__law_pen), sl__law_pen⟩)
    (c_law_pen : PySem.W.codeIn K cd__law_pen "_law_pen" = true)
    (k_law_pen : PySem.W.keepIn K (.ref a__law_pen) = true)
    (a_law_draw : PySem.W.nsIn K mainGlobals "_law_draw" = some (some (.ref a__law_draw)))
    (l_law_draw : K.lookup a__law_draw = some ⟨oc__law_draw, od__law_draw, .func (PySem.W.fnOf "_law_draw" "_law_draw" (defArgs s__law_draw) (defBody s__law_draw) (defScope s__law_draw) .none kV__law_draw dc__law_draw pm__law_draw an__law_draw cd__law_draw ct__law_draw), sl__law_draw⟩)
    (c_law_draw : PySem.W.codeIn K cd__law_draw "_law_draw" = true)
    (k_law_draw : PySem.W.keepIn K (.ref a__law_draw) = true)
    (a_law_pick : PySem.W.nsIn K mainGlobals "_law_pick" = some (some (.ref a__law_pick)))
    (l_law_pick : K.lookup a__law_pick = some ⟨oc__law_pick, od__law_pick, .func (PySem.W.fnOf "_law_pick" "_law_pick" (defArgs s__law_pick) (defBody s__law_pick) (defScope s__law_pick) .none kV__law_pick dc__law_pick pm__law_pick an__law_pick cd__law_pick ct__law_pick), sl__law_pick⟩)
    (c_law_pick : PySem.W.codeIn K cd__law_pick "_law_pick" = true)
    (k_law_pick : PySem.W.keepIn K (.ref a__law_pick) = true)
    (a_law_heard : PySem.W.nsIn K mainGlobals "_law_heard" = some (some (.ref a__law_heard)))
    (l_law_heard : K.lookup a__law_heard = some ⟨oc__law_heard, od__law_heard, .func (PySem.W.fnOf "_law_heard" "_law_heard" (defArgs s__law_heard) (defBody s__law_heard) (defScope s__law_heard) .none kV__law_heard dc__law_heard pm__law_heard an__law_heard cd__law_heard ct__law_heard), sl__law_heard⟩)
    (c_law_heard : PySem.W.codeIn K cd__law_heard "_law_heard" = true)
    (k_law_heard : PySem.W.keepIn K (.ref a__law_heard) = true)
    (a_law_parts : PySem.W.nsIn K mainGlobals "_law_parts" = some (some (.ref a__law_parts)))
    (l_law_parts : K.lookup a__law_parts = some ⟨oc__law_parts, od__law_parts, .func (PySem.W.fnOf "_law_parts" "_law_parts" (defArgs s__law_parts) (defBody s__law_parts) (defScope s__law_parts) .none kV__law_parts dc__law_parts pm__law_parts an__law_parts cd__law_parts ct__law_parts), sl__law_parts⟩)
    (c_law_parts : PySem.W.codeIn K cd__law_parts "_law_parts" = true)
    (k_law_parts : PySem.W.keepIn K (.ref a__law_parts) = true)
    (a_law_text : PySem.W.nsIn K mainGlobals "_law_text" = some (some (.ref a__law_text)))
    (l_law_text : K.lookup a__law_text = some ⟨oc__law_text, od__law_text, .func (PySem.W.fnOf "_law_text" "_law_text" (defArgs s__law_text) (defBody s__law_text) (defScope s__law_text) .none kV__law_text dc__law_text pm__law_text an__law_text cd__law_text ct__law_text), sl__law_text⟩)
    (c_law_text : PySem.W.codeIn K cd__law_text "_law_text" = true)
    (k_law_text : PySem.W.keepIn K (.ref a__law_text) = true)
    (a_law_statement : PySem.W.nsIn K mainGlobals "_law_statement" = some (some (.ref a__law_statement)))
    (l_law_statement : K.lookup a__law_statement = some ⟨oc__law_statement, od__law_statement, .func (PySem.W.fnOf "_law_statement" "_law_statement" (defArgs s__law_statement) (defBody s__law_statement) (defScope s__law_statement) .none kV__law_statement dc__law_statement pm__law_statement an__law_statement cd__law_statement ct__law_statement), sl__law_statement⟩)
    (c_law_statement : PySem.W.codeIn K cd__law_statement "_law_statement" = true)
    (k_law_statement : PySem.W.keepIn K (.ref a__law_statement) = true)
    (a_law_listed : PySem.W.nsIn K mainGlobals "_law_listed" = some (some (.ref a__law_listed)))
    (l_law_listed : K.lookup a__law_listed = some ⟨oc__law_listed, od__law_listed, .func (PySem.W.fnOf "_law_listed" "_law_listed" (defArgs s__law_listed) (defBody s__law_listed) (defScope s__law_listed) .none kV__law_listed dc__law_listed pm__law_listed an__law_listed cd__law_listed ct__law_listed), sl__law_listed⟩)
    (c_law_listed : PySem.W.codeIn K cd__law_listed "_law_listed" = true)
    (k_law_listed : PySem.W.keepIn K (.ref a__law_listed) = true)
    (a_law_long : PySem.W.nsIn K mainGlobals "_law_long" = some (some (.ref a__law_long)))
    (l_law_long : K.lookup a__law_long = some ⟨oc__law_long, od__law_long, .func (PySem.W.fnOf "_law_long" "_law_long" (defArgs s__law_long) (defBody s__law_long) (defScope s__law_long) .none kV__law_long dc__law_long pm__law_long an__law_long cd__law_long ct__law_long), sl__law_long⟩)
    (c_law_long : PySem.W.codeIn K cd__law_long "_law_long" = true)
    (k_law_long : PySem.W.keepIn K (.ref a__law_long) = true)
    (a_law_bent : PySem.W.nsIn K mainGlobals "_law_bent" = some (some (.ref a__law_bent)))
    (l_law_bent : K.lookup a__law_bent = some ⟨oc__law_bent, od__law_bent, .func (PySem.W.fnOf "_law_bent" "_law_bent" (defArgs s__law_bent) (defBody s__law_bent) (defScope s__law_bent) .none kV__law_bent dc__law_bent pm__law_bent an__law_bent cd__law_bent ct__law_bent), sl__law_bent⟩)
    (c_law_bent : PySem.W.codeIn K cd__law_bent "_law_bent" = true)
    (k_law_bent : PySem.W.keepIn K (.ref a__law_bent) = true)
    (alaw : PySem.W.nsIn K mainGlobals "law" = some (some (.ref a_law)))
    (llaw : K.lookup a_law = some ⟨oc_law, od_law, .func (PySem.W.fnOf "law" "law" (defArgs s_law) (defBody s_law) (defScope s_law) .none kV_law dc_law pm_law an_law (.ref c_law) ct_law), sl_law⟩)
    (claw : PySem.W.codeIn K (.ref c_law) "law" = true)
    (klaw : PySem.W.keepIn K (.ref a_law) = true)
    (olaw : K.lookup c_law = some ⟨wl_law, wd_law, .fields wv_law, ws_law⟩)
    (plaw : wv_law[11]? = some (.ref p_law))
    (nlaw : K.lookup p_law = none)
    (aBadCode : PySem.W.nsIn K mainGlobals "BadCode" = some (some (.ref a_BadCode)))
    (aBadLibrary : PySem.W.nsIn K mainGlobals "BadLibrary" = some (some (.ref a_BadLibrary)))
    (aBadNumber : PySem.W.nsIn K mainGlobals "BadNumber" = some (some (.ref a_BadNumber)))
    (aBadPaper : PySem.W.nsIn K mainGlobals "BadPaper" = some (some (.ref a_BadPaper)))
    (aBadSheet : PySem.W.nsIn K mainGlobals "BadSheet" = some (some (.ref a_BadSheet)))
    (aBadStatement : PySem.W.nsIn K mainGlobals "BadStatement" = some (some (.ref a_BadStatement)))
    (aBadValue : PySem.W.nsIn K mainGlobals "BadValue" = some (some (.ref a_BadValue)))
    (aBadWay : PySem.W.nsIn K mainGlobals "BadWay" = some (some (.ref a_BadWay)))
    (aMisfit : PySem.W.nsIn K mainGlobals "Misfit" = some (some (.ref a_Misfit)))
    (aPaidError : PySem.W.nsIn K mainGlobals "PaidError" = some (some (.ref a_PaidError)))
    (aPartError : PySem.W.nsIn K mainGlobals "PartError" = some (some (.ref a_PartError)))
    (xBadStatement : K.lookup a_BadStatement = some (excClassObj nm_BadStatement qn_BadStatement a_BadStatement N_BadStatement bs_BadStatement bm_BadStatement true sn_BadStatement sub_BadStatement ab_BadStatement col_BadStatement dd_BadStatement m0_BadStatement m1_BadStatement m2_BadStatement m3_BadStatement m5_BadStatement "ValueError.__new__"))
    (vBadStatement : PySem.HandSPX.refsVE bm_BadStatement = true)
    (saBadStatement : PySem.W.findIn K (.ref a_BadStatement) "__setattr__" = some (some (.builtin "object.__setattr__")))
    (exBadStatement : PySem.W.subIn K (.ref a_BadStatement) (.type "BaseException") = some true)
    (tyBadStatement : PySem.W.typeIn K (.ref a_BadStatement) = some (.type "type"))
    (keBadStatement : PySem.W.keepIn K (.ref a_BadStatement) = true)
    (mrBadStatement : PySem.W.mroIn K a_BadStatement (.ref a_PartError) = some true)
    (suBadStatement : PySem.W.ks_superIn K a_BadStatement a_PartError "__init__" = some (some (.builtin "ValueError.__init__")))
    (veBadStatement : PySem.W.subIn K (.ref a_BadStatement) (.type "ValueError") = some true)
    (noBadStatement : PySem.W.findIn K (.ref a_BadStatement) "part" = some none)
    (inBadStatement : PySem.W.findIn K (.ref a_BadStatement) "__init__" = some (some (.ref a_PartI)))
    (gaBadStatement : PySem.W.findIn K (.ref a_BadStatement) "__getattribute__" = some (some (.builtin "BaseException.__getattribute__")))
    (ggBadStatement : PySem.W.findIn K (.ref a_BadStatement) "__getattr__" = some none)
    (hdBadStatement : PySem.W.hasDictIn K a_BadStatement = true)
    (caBadStatement : PySem.W.findIn K (.ref a_BadStatement) "__class__" = some (some (.builtin "object.__class__")))
    (cnBadStatement : PySem.W.specialIn K (.builtin "object.__class__") "__get__" = some (some (.builtin "getset_descriptor.__get__")))
    (ctBadStatement : PySem.W.takesIn K (.builtin "object.__class__") = some true)
    (cmBadStatement : PySem.W.mroIn K a_BadStatement (.type "object") = some true)
    (peBadStatement : PySem.W.exmOne K (.ref a_BadStatement) (.ref a_PaidError) = some true)
    (iBadStatement_BadStatement : PySem.W.kitOne K (.ref a_BadStatement) (.ref a_BadStatement) = some true)
    (iBadStatement_BadSheet : PySem.W.kitOne K (.ref a_BadStatement) (.ref a_BadSheet) = some false)
    (iBadStatement_BadWay : PySem.W.kitOne K (.ref a_BadStatement) (.ref a_BadWay) = some false)
    (iBadStatement_BadCode : PySem.W.kitOne K (.ref a_BadStatement) (.ref a_BadCode) = some false)
    (iBadStatement_BadValue : PySem.W.kitOne K (.ref a_BadStatement) (.ref a_BadValue) = some false)
    (iBadStatement_BadNumber : PySem.W.kitOne K (.ref a_BadStatement) (.ref a_BadNumber) = some false)
    (iBadStatement_BadPaper : PySem.W.kitOne K (.ref a_BadStatement) (.ref a_BadPaper) = some false)
    (iBadStatement_BadLibrary : PySem.W.kitOne K (.ref a_BadStatement) (.ref a_BadLibrary) = some false)
    (iBadStatement_Misfit : PySem.W.kitOne K (.ref a_BadStatement) (.ref a_Misfit) = some false)
    (lPartI : K.lookup a_PartI = some ⟨oc_PartI, od_PartI, .func (PySem.W.fnX "__init__" "PartError.__init__" (defArgs s_PartError___init__) (defBody s_PartError___init__) (defScope s_PartError___init__) [("__class__", cc_PartI)] .none .none dc_PartI pm_PartI none (.ref ci_PartI) ct_PartI), sl_PartI⟩)
    (cPartI : PySem.W.codeIn K (.ref ci_PartI) "PartError.__init__" = true)
    (oPartI : K.lookup ci_PartI = some ⟨kl_PartI, kd_PartI, .fields kv_PartI, ks_PartI⟩)
    (vPartI : kv_PartI[2]? = some (.str file_PartI ft_PartI))
    (fPartI : ((l.prog.main.file : Str) == file_PartI) = true)
    (qPartI : K.lookup cc_PartI = some ⟨ql_PartI, qd_PartI, .cell (some (.ref a_PartError)), qs_PartI⟩)
    (kPartI : (PySem.W.clsIn K a_PartError).isSome = true)
    (uPartI : PySem.W.nsIn K mainGlobals "super" = some none)
    (pPartI : (l.prog.main.scope.names.lookup ("super" : Str)).isSome = false)
    (yPartI : PySem.W.nsIn K PySem.cStatics "thirdparty.any" = some none)
    (tPartI : PySem.W.typeIn K (.ref a_PartI) = some (.type "function"))
    (gBARE : PySem.W.nsIn K mainGlobals "BARE" = some (some (.ref a_BARE)))
    (lBARE : K.lookup a_BARE = some o_BARE)
    (tBARE : tupStr o_BARE ["nothing", "any", "no"] = true)
    (gJOINS : PySem.W.nsIn K mainGlobals "JOINS" = some (some (.ref a_JOINS)))
    (lJOINS : K.lookup a_JOINS = some o_JOINS)
    (tJOINS : tupStr o_JOINS ["both", "gives", "pick", "or"] = true)
    (gLETTERS : PySem.W.nsIn K mainGlobals "LETTERS" = some (some (.str "abcdefghijklmnopqrstuvwxyz" t_LETTERS)))
    (gMOST_PARTS : PySem.W.nsIn K mainGlobals "MOST_PARTS" = some (some (.int 24 t_MOST_PARTS)))
    (gMOST_SIGNS : PySem.W.nsIn K mainGlobals "MOST_SIGNS" = some (some (.int 8 t_MOST_SIGNS)))
    (gWORDS : PySem.W.nsIn K mainGlobals "WORDS" = some (some (.ref a_WORDS)))
    (lWORDS : K.lookup a_WORDS = some o_WORDS)
    (tWORDS : tupStr o_WORDS ["both", "gives", "pick", "or", "nothing", "any", "no", "split", "call", "take", "open", "use", "never", "give", "box", "pair", "fun", "offer", "left", "right", "unit", "rest", "first", "second"] = true)
    (zabs : PySem.W.nsIn K mainGlobals "abs" = some none)
    (zall : PySem.W.nsIn K mainGlobals "all" = some none)
    (zint : PySem.W.nsIn K mainGlobals "int" = some none)
    (zisinstance : PySem.W.nsIn K mainGlobals "isinstance" = some none)
    (zlen : PySem.W.nsIn K mainGlobals "len" = some none)
    (zlist : PySem.W.nsIn K mainGlobals "list" = some none)
    (zrange : PySem.W.nsIn K mainGlobals "range" = some none)
    (zrepr : PySem.W.nsIn K mainGlobals "repr" = some none)
    (zset : PySem.W.nsIn K mainGlobals "set" = some none)
    (zsorted : PySem.W.nsIn K mainGlobals "sorted" = some none)
    (zstr : PySem.W.nsIn K mainGlobals "str" = some none)
    (ztuple : PySem.W.nsIn K mainGlobals "tuple" = some none) :
    LawAtN l q w K CX0 18 63 "script" mg fa := by
  cases hfa.symm.trans (PySem.W.mg_of X G alaw)
  letI : LT K := ⟨[(p_law, lamQ "law")]⟩
  have F_is_row := fun_mk (st := s_is_row) lis_row cis_row kis_row
  have b_is_row := F_is_row.binds (ps := ["value"]) fun _ _ _ _ _ _ us hl => match us, hl with | [_], _ => rfl
  have F_is_name := fun_mk (st := s_is_name) lis_name cis_name kis_name
  have b_is_name := F_is_name.binds (ps := ["value"]) fun _ _ _ _ _ _ us hl => match us, hl with | [_], _ => rfl
  have F_fixed := fun_mk (st := s_fixed) lfixed cfixed kfixed
  have b_fixed := F_fixed.binds (ps := ["value"]) fun _ _ _ _ _ _ us hl => match us, hl with | [_], _ => rfl
  have F_statement_in := fun_mk (st := s_statement_in) lstatement_in cstatement_in kstatement_in
  have b_statement_in := F_statement_in.binds (ps := ["value"]) fun _ _ _ _ _ _ us hl => match us, hl with | [_], _ => rfl
  have F_is_statement := fun_mk (st := s_is_statement) lis_statement cis_statement kis_statement
  have b_is_statement := F_is_statement.binds (ps := ["value"]) fun _ _ _ _ _ _ us hl => match us, hl with | [_], _ => rfl
  have F_need_statement : FunT K _ _ s_need_statement ["statement"] _ _ := funT_mk lneed_statement cneed_statement kneed_statement (KTup.of lTneed_statement tTneed_statement) (by simp)
  obtain ⟨e_need_statement, v_need_statement, b_need_statement⟩ := FunD.binds1 (ps := ["value", "part"]) F_need_statement 1 0 (by simp) rfl (fun T kV doc pm an cdv ct us its hl hl2 => match us, its, hl, hl2 with | [_], [_], _, _ => ⟨_, rfl, rfl⟩)
  have F_parts_in := fun_mk (st := s_parts_in) lparts_in cparts_in kparts_in
  have b_parts_in := F_parts_in.binds (ps := ["statement"]) fun _ _ _ _ _ _ us hl => match us, hl with | [_], _ => rfl
  have F_is_kind := fun_mk (st := s_is_kind) lis_kind cis_kind kis_kind
  have b_is_kind := F_is_kind.binds (ps := ["statement"]) fun _ _ _ _ _ _ us hl => match us, hl with | [_], _ => rfl
  have F_kinds_in := fun_mk (st := s_kinds_in) lkinds_in ckinds_in kkinds_in
  have b_kinds_in := F_kinds_in.binds (ps := ["statements"]) fun _ _ _ _ _ _ us hl => match us, hl with | [_], _ => rfl
  have F_text_in := fun_mk (st := s_text_in) ltext_in ctext_in ktext_in
  have b_text_in := F_text_in.binds (ps := ["statement"]) fun _ _ _ _ _ _ us hl => match us, hl with | [_], _ => rfl
  have F_parts_of := fun_mk (st := s_parts_of) lparts_of cparts_of kparts_of
  have b_parts_of := F_parts_of.binds (ps := ["statement"]) fun _ _ _ _ _ _ us hl => match us, hl with | [_], _ => rfl
  have F_size_of := fun_mk (st := s_size_of) lsize_of csize_of ksize_of
  have b_size_of := F_size_of.binds (ps := ["statement"]) fun _ _ _ _ _ _ us hl => match us, hl with | [_], _ => rfl
  have F_kinds_of := fun_mk (st := s_kinds_of) lkinds_of ckinds_of kkinds_of
  have b_kinds_of := F_kinds_of.binds (ps := ["statement"]) fun _ _ _ _ _ _ us hl => match us, hl with | [_], _ => rfl
  have F_statement_text := fun_mk (st := s_statement_text) lstatement_text cstatement_text kstatement_text
  have b_statement_text := F_statement_text.binds (ps := ["statement"]) fun _ _ _ _ _ _ us hl => match us, hl with | [_], _ => rfl
  have F__law_pen := fun_mk (st := s__law_pen) l_law_pen c_law_pen k_law_pen
  have b__law_pen := F__law_pen.binds (ps := ["script"]) fun _ _ _ _ _ _ us hl => match us, hl with | [_], _ => rfl
  have F__law_draw := fun_mk (st := s__law_draw) l_law_draw c_law_draw k_law_draw
  have b__law_draw := F__law_draw.binds (ps := ["pen", "many"]) fun _ _ _ _ _ _ us hl => match us, hl with | [_, _], _ => rfl
  have F__law_pick := fun_mk (st := s__law_pick) l_law_pick c_law_pick k_law_pick
  have b__law_pick := F__law_pick.binds (ps := ["pen", "some"]) fun _ _ _ _ _ _ us hl => match us, hl with | [_, _], _ => rfl
  have F__law_heard := fun_mk (st := s__law_heard) l_law_heard c_law_heard k_law_heard
  have b__law_heard := F__law_heard.binds (ps := ["ask"]) fun _ _ _ _ _ _ us hl => match us, hl with | [_], _ => rfl
  have F__law_parts := fun_mk (st := s__law_parts) l_law_parts c_law_parts k_law_parts
  have b__law_parts := F__law_parts.binds (ps := ["statement"]) fun _ _ _ _ _ _ us hl => match us, hl with | [_], _ => rfl
  have F__law_text := fun_mk (st := s__law_text) l_law_text c_law_text k_law_text
  have b__law_text := F__law_text.binds (ps := ["statement"]) fun _ _ _ _ _ _ us hl => match us, hl with | [_], _ => rfl
  have F__law_statement := fun_mk (st := s__law_statement) l_law_statement c_law_statement k_law_statement
  have b__law_statement := F__law_statement.binds (ps := ["pen", "kinds", "deep"]) fun _ _ _ _ _ _ us hl => match us, hl with | [_, _, _], _ => rfl
  have F__law_listed := fun_mk (st := s__law_listed) l_law_listed c_law_listed k_law_listed
  have b__law_listed := F__law_listed.binds (ps := ["pen", "statement"]) fun _ _ _ _ _ _ us hl => match us, hl with | [_, _], _ => rfl
  have F__law_long := fun_mk (st := s__law_long) l_law_long c_law_long k_law_long
  have b__law_long := F__law_long.binds (ps := ["pen", "many"]) fun _ _ _ _ _ _ us hl => match us, hl with | [_, _], _ => rfl
  have F__law_bent := fun_mk (st := s__law_bent) l_law_bent c_law_bent k_law_bent
  have b__law_bent := F__law_bent.binds (ps := ["pen", "statement"]) fun _ _ _ _ _ _ us hl => match us, hl with | [_, _], _ => rfl
  have F_law := fun_mk (st := s_law) llaw claw klaw
  have b_law := F_law.binds (ps := ["script"]) fun _ _ _ _ _ _ us hl => match us, hl with | [_], _ => rfl
  have tlaw : PySem.W.tabIn K "law" = some (c_law, p_law) := tabIn_mk alaw llaw olaw plaw
  have I_PartError : PartI l.prog K mg a_PartError a_PartI _ := ⟨⟨⟨"__init__", "PartError.__init__", defArgs s_PartError___init__, defBody s_PartError___init__, defScope s_PartError___init__, [("__class__", cc_PartI)], ci_PartI⟩, cc_PartI, dc_PartI, pm_PartI, ct_PartI, oc_PartI, od_PartI, sl_PartI, rfl,
    ⟨lPartI, cPartI, ⟨_, _, _, _, _, _, oPartI, vPartI, fPartI⟩, rfl, ⟨_, _, _, qPartI⟩, Option.isSome_iff_exists.mp kPartI, PySem.W.mg_none_of X G uPartI, pPartI, ⟨_, rfl, rfl⟩, rfl, yPartI⟩, (show NdefX.NScope _ _ _ (defScope s_PartError___init__) from NdefX.nscope_by (by decide +kernel)), _, _, _, _, _, _, _, _, _, _, rfl, fun L => ⟨_, rfl⟩⟩, .all fun us hl => match us, hl with | [_, _], _ => rfl, tPartI⟩
  refine ⟨_, [("law", c_law, p_law)], sp_law K, fun t ht => ?_, fun s u => .of_eq rfl, fun H a ns hl h1 h2 hS => ⟨a, ns, fun _ => none, rfl, hS, hl, ⟨(fun _ _ z => nomatch z), (fun _ z => nomatch z), (fun _ _ z => nomatch z), ⟨fun q hq => ?_, fun b ps e => ?_⟩⟩, fun _ => rfl⟩, fun base _ _ hTB =>
    ok_law (Fs.mk (_) (_) (F_is_row) (PySem.W.mg_of X G ais_row) (b_is_row) (_) (_) (F_is_name) (PySem.W.mg_of X G ais_name) (b_is_name) (_) (_) (F_fixed) (PySem.W.mg_of X G afixed) (b_fixed) (_) (_) (F_statement_in) (PySem.W.mg_of X G astatement_in) (b_statement_in) (_) (_) (F_is_statement) (PySem.W.mg_of X G ais_statement) (b_is_statement) (_) (_) (e_need_statement) (F_need_statement) (PySem.W.mg_of X G aneed_statement) (v_need_statement) (b_need_statement) (_) (_) (F_parts_in) (PySem.W.mg_of X G aparts_in) (b_parts_in) (_) (_) (F_is_kind) (PySem.W.mg_of X G ais_kind) (b_is_kind) (_) (_) (F_kinds_in) (PySem.W.mg_of X G akinds_in) (b_kinds_in) (_) (_) (F_text_in) (PySem.W.mg_of X G atext_in) (b_text_in) (_) (_) (F_parts_of) (PySem.W.mg_of X G aparts_of) (b_parts_of) (_) (_) (F_size_of) (PySem.W.mg_of X G asize_of) (b_size_of) (_) (_) (F_kinds_of) (PySem.W.mg_of X G akinds_of) (b_kinds_of) (_) (_) (F_statement_text) (PySem.W.mg_of X G astatement_text) (b_statement_text) (_) (_) (F__law_pen) (PySem.W.mg_of X G a_law_pen) (b__law_pen) (_) (_) (F__law_draw) (PySem.W.mg_of X G a_law_draw) (b__law_draw) (_) (_) (F__law_pick) (PySem.W.mg_of X G a_law_pick) (b__law_pick) (_) (_) (F__law_heard) (PySem.W.mg_of X G a_law_heard) (b__law_heard) (_) (_) (F__law_parts) (PySem.W.mg_of X G a_law_parts) (b__law_parts) (_) (_) (F__law_text) (PySem.W.mg_of X G a_law_text) (b__law_text) (_) (_) (F__law_statement) (PySem.W.mg_of X G a_law_statement) (b__law_statement) (_) (_) (F__law_listed) (PySem.W.mg_of X G a_law_listed) (b__law_listed) (_) (_) (F__law_long) (PySem.W.mg_of X G a_law_long) (b__law_long) (_) (_) (F__law_bent) (PySem.W.mg_of X G a_law_bent) (b__law_bent) (_) (_) (F_law) (PySem.W.mg_of X G alaw) (b_law) (c_law) (p_law) (funC_mk llaw claw) (a_BadCode) (PySem.W.mg_of X G aBadCode) (a_BadLibrary) (PySem.W.mg_of X G aBadLibrary) (a_BadNumber) (PySem.W.mg_of X G aBadNumber) (a_BadPaper) (PySem.W.mg_of X G aBadPaper) (a_BadSheet) (PySem.W.mg_of X G aBadSheet) (a_BadStatement) (PySem.W.mg_of X G aBadStatement) (a_BadValue) (PySem.W.mg_of X G aBadValue) (a_BadWay) (PySem.W.mg_of X G aBadWay) (a_Misfit) (PySem.W.mg_of X G aMisfit) (a_PaidError) (PySem.W.mg_of X G aPaidError) (a_PartError) (PySem.W.mg_of X G aPartError) (a_PartI) (_) (I_PartError) (⟨⟨⟨⟨_, _, _, _, _, _, _, _, _, _, _, _, _, _, _, xBadStatement, vBadStatement⟩, saBadStatement, exBadStatement, tyBadStatement, keBadStatement⟩, mrBadStatement, suBadStatement, veBadStatement⟩, noBadStatement, inBadStatement⟩) (⟨⟨gaBadStatement, ggBadStatement, exBadStatement, hdBadStatement, caBadStatement, cnBadStatement, ctBadStatement, cmBadStatement⟩, ⟨gaBadStatement, ggBadStatement, exBadStatement, hdBadStatement⟩, noBadStatement⟩) (peBadStatement) (iBadStatement_BadStatement) (iBadStatement_BadSheet) (iBadStatement_BadWay) (iBadStatement_BadCode) (iBadStatement_BadValue) (iBadStatement_BadNumber) (iBadStatement_BadPaper) (iBadStatement_BadLibrary) (iBadStatement_Misfit) (kb_is_statement_value F_is_statement) (kb_parts_of_statement F_parts_of) (kb_size_of_statement F_size_of) (kb_statement_text_statement F_statement_text) (a_BARE) (PySem.W.mg_of X G gBARE) (KTup.of lBARE tBARE) (a_JOINS) (PySem.W.mg_of X G gJOINS) (KTup.of lJOINS tJOINS) (⟨_, PySem.W.mg_of X G gLETTERS⟩) (⟨_, PySem.W.mg_of X G gMOST_PARTS⟩) (⟨_, PySem.W.mg_of X G gMOST_SIGNS⟩) (a_WORDS) (PySem.W.mg_of X G gWORDS) (KTup.of lWORDS tWORDS) (PySem.W.mg_none_of X G zabs) (PySem.W.mg_none_of X G zall) (PySem.W.mg_none_of X G zint) (PySem.W.mg_none_of X G zisinstance) (PySem.W.mg_none_of X G zlen) (PySem.W.mg_none_of X G zlist) (PySem.W.mg_none_of X G zrange) (PySem.W.mg_none_of X G zrepr) (PySem.W.mg_none_of X G zset) (PySem.W.mg_none_of X G zsorted) (PySem.W.mg_none_of X G zstr) (PySem.W.mg_none_of X G ztuple)) (hTB _ (List.mem_singleton.mpr rfl)) (List.mem_singleton.mpr rfl) fun q hq _ => by rw [List.mem_singleton.mp hq]⟩
  · cases List.mem_singleton.mp ht
    exact ⟨hrec, tlaw, nlaw⟩
  · cases List.mem_singleton.mp hq
    exact LamX.TabS.nil (h1 _ (List.mem_singleton.mpr rfl))
  · obtain ⟨t, ht, rfl⟩ := h2 b ps e
    cases List.mem_singleton.mp ht
    exact ⟨_, List.mem_singleton.mpr rfl⟩
theorem walk {l : PySem.W.OpenLaw} {q : Program} {loose : List Str} {XP : (Str → Option Value) → Heap → Prop} {YP : World → Heap → Prop} {d : DefRec} {K : Params → PySem.W.Frag} (hn : l.most = some 63) (hdf : d.params.defaults = []) (hY : ∀ (w : World) (h : Heap), YP w h → (K w.params).In h)
    (F : ∀ (w : World) (mg : Str → Option Value) (fa : Addr) (h : Heap), (K w.params).In h → h.Ns mainGlobals mg → mg d.name = some (.ref fa) → LawAtN l q w (K w.params) CX0 18 63 "script" mg fa) :
    PySem.W.WalkO q loose XP YP l.row.toRowW d [] (fun f vs => PySem.call f vs) :=
  walk_ofGN (n := 63) (k := 18) (x := "script") hn (by decide) hdf ⟨rfl, by decide, by decide⟩ hY F
end K02
open PySem PySem.W PyProof.Rows in
set_option maxRecDepth 100000 in
set_option maxHeartbeats 0 in
theorem PySem.Challenge.cw_paidatmost_k02_statements_and_their_text_holds : PySem.Challenge.rw_paidatmost_k02_statements_and_their_text.Holds := by
  w_on; o_law; k_head; (case hw => w_witness2)
  k_fill
  refine K02.walk (l := PySem.Challenge.rw_paidatmost_k02_statements_and_their_text) rfl rfl (fun w h Y => PySem.W.km_in_of Y) ?F
  case F =>
    intro w mg fa h KX G hmg
    refine' K02.all_mk KX G hmg ⟨_, rfl⟩ ?ais_row ?lis_row ?cis_row ?kis_row ?ais_name ?lis_name ?cis_name ?kis_name ?afixed ?lfixed ?cfixed ?kfixed ?astatement_in ?lstatement_in ?cstatement_in ?kstatement_in ?ais_statement ?lis_statement ?cis_statement ?kis_statement ?aneed_statement ?lneed_statement ?cneed_statement ?kneed_statement ?lTneed_statement ?tTneed_statement ?aparts_in ?lparts_in ?cparts_in ?kparts_in ?ais_kind ?lis_kind ?cis_kind ?kis_kind ?akinds_in ?lkinds_in ?ckinds_in ?kkinds_in ?atext_in ?ltext_in ?ctext_in ?ktext_in ?aparts_of ?lparts_of ?cparts_of ?kparts_of ?asize_of ?lsize_of ?csize_of ?ksize_of ?akinds_of ?lkinds_of ?ckinds_of ?kkinds_of ?astatement_text ?lstatement_text ?cstatement_text ?kstatement_text ?a_law_pen ?l_law_pen ?c_law_pen ?k_law_pen ?a_law_draw ?l_law_draw ?c_law_draw ?k_law_draw ?a_law_pick ?l_law_pick ?c_law_pick ?k_law_pick ?a_law_heard ?l_law_heard ?c_law_heard ?k_law_heard ?a_law_parts ?l_law_parts ?c_law_parts ?k_law_parts ?a_law_text ?l_law_text ?c_law_text ?k_law_text ?a_law_statement ?l_law_statement ?c_law_statement ?k_law_statement ?a_law_listed ?l_law_listed ?c_law_listed ?k_law_listed ?a_law_long ?l_law_long ?c_law_long ?k_law_long ?a_law_bent ?l_law_bent ?c_law_bent ?k_law_bent ?alaw ?llaw ?claw ?klaw ?olaw ?plaw ?nlaw ?aBadCode ?aBadLibrary ?aBadNumber ?aBadPaper ?aBadSheet ?aBadStatement ?aBadValue ?aBadWay ?aMisfit ?aPaidError ?aPartError ?xBadStatement ?vBadStatement ?saBadStatement ?exBadStatement ?tyBadStatement ?keBadStatement ?mrBadStatement ?suBadStatement ?veBadStatement ?noBadStatement ?inBadStatement ?gaBadStatement ?ggBadStatement ?hdBadStatement ?caBadStatement ?cnBadStatement ?ctBadStatement ?cmBadStatement ?peBadStatement ?iBadStatement_BadStatement ?iBadStatement_BadSheet ?iBadStatement_BadWay ?iBadStatement_BadCode ?iBadStatement_BadValue ?iBadStatement_BadNumber ?iBadStatement_BadPaper ?iBadStatement_BadLibrary ?iBadStatement_Misfit ?lPartI ?cPartI ?oPartI ?vPartI ?fPartI ?qPartI ?kPartI ?uPartI ?pPartI ?yPartI ?tPartI ?gBARE ?lBARE ?tBARE ?gJOINS ?lJOINS ?tJOINS ?gLETTERS ?gMOST_PARTS ?gMOST_SIGNS ?gWORDS ?lWORDS ?tWORDS ?zabs ?zall ?zint ?zisinstance ?zlen ?zlist ?zrange ?zrepr ?zset ?zsorted ?zstr ?ztuple
    (case ais_row => k_is)
    (case lis_row => k_is)
    (case cis_row => k_is)
    (case kis_row => k_is)
    (case ais_name => k_is)
    (case lis_name => k_is)
    (case cis_name => k_is)
    (case kis_name => k_is)
    (case afixed => k_is)
    (case lfixed => k_is)
    (case cfixed => k_is)
    (case kfixed => k_is)
    (case astatement_in => k_is)
    (case lstatement_in => k_is)
    (case cstatement_in => k_is)
    (case kstatement_in => k_is)
    (case ais_statement => k_is)
    (case lis_statement => k_is)
    (case cis_statement => k_is)
    (case kis_statement => k_is)
    (case aneed_statement => k_is)
    (case lneed_statement => k_is)
    (case cneed_statement => k_is)
    (case kneed_statement => k_is)
    (case lTneed_statement => k_is)
    (case tTneed_statement => rfl)
    (case aparts_in => k_is)
    (case lparts_in => k_is)
    (case cparts_in => k_is)
    (case kparts_in => k_is)
    (case ais_kind => k_is)
    (case lis_kind => k_is)
    (case cis_kind => k_is)
    (case kis_kind => k_is)
    (case akinds_in => k_is)
    (case lkinds_in => k_is)
    (case ckinds_in => k_is)
    (case kkinds_in => k_is)
    (case atext_in => k_is)
    (case ltext_in => k_is)
    (case ctext_in => k_is)
    (case ktext_in => k_is)
    (case aparts_of => k_is)
    (case lparts_of => k_is)
    (case cparts_of => k_is)
    (case kparts_of => k_is)
    (case asize_of => k_is)
    (case lsize_of => k_is)
    (case csize_of => k_is)
    (case ksize_of => k_is)
    (case akinds_of => k_is)
    (case lkinds_of => k_is)
    (case ckinds_of => k_is)
    (case kkinds_of => k_is)
    (case astatement_text => k_is)
    (case lstatement_text => k_is)
    (case cstatement_text => k_is)
    (case kstatement_text => k_is)
    (case a_law_pen => k_is)
    (case l_law_pen => k_is)
    (case c_law_pen => k_is)
    (case k_law_pen => k_is)
    (case a_law_draw => k_is)
    (case l_law_draw => k_is)
    (case c_law_draw => k_is)
    (case k_law_draw => k_is)
    (case a_law_pick => k_is)
    (case l_law_pick => k_is)
    (case c_law_pick => k_is)
    (case k_law_pick => k_is)
    (case a_law_heard => k_is)
    (case l_law_heard => k_is)
    (case c_law_heard => k_is)
    (case k_law_heard => k_is)
    (case a_law_parts => k_is)
    (case l_law_parts => k_is)
    (case c_law_parts => k_is)
    (case k_law_parts => k_is)
    (case a_law_text => k_is)
    (case l_law_text => k_is)
    (case c_law_text => k_is)
    (case k_law_text => k_is)
    (case a_law_statement => k_is)
    (case l_law_statement => k_is)
    (case c_law_statement => k_is)
    (case k_law_statement => k_is)
    (case a_law_listed => k_is)
    (case l_law_listed => k_is)
    (case c_law_listed => k_is)
    (case k_law_listed => k_is)
    (case a_law_long => k_is)
    (case l_law_long => k_is)
    (case c_law_long => k_is)
    (case k_law_long => k_is)
    (case a_law_bent => k_is)
    (case l_law_bent => k_is)
    (case c_law_bent => k_is)
    (case k_law_bent => k_is)
    (case alaw => k_is)
    (case llaw => k_is)
    (case claw => k_is)
    (case klaw => k_is)
    (case olaw => k_is)
    (case plaw => rfl)
    (case nlaw => kernel_rfl)
    (case aBadCode => k_is)
    (case aBadLibrary => k_is)
    (case aBadNumber => k_is)
    (case aBadPaper => k_is)
    (case aBadSheet => k_is)
    (case aBadStatement => k_is)
    (case aBadValue => k_is)
    (case aBadWay => k_is)
    (case aMisfit => k_is)
    (case aPaidError => k_is)
    (case aPartError => k_is)
    (case xBadStatement => k_is)
    (case vBadStatement => rfl)
    (case saBadStatement => k_is)
    (case exBadStatement => k_is)
    (case tyBadStatement => k_is)
    (case keBadStatement => k_is)
    (case mrBadStatement => k_is)
    (case suBadStatement => kernel_rfl)
    (case veBadStatement => k_is)
    (case noBadStatement => k_is)
    (case inBadStatement => k_is)
    (case gaBadStatement => k_is)
    (case ggBadStatement => k_is)
    (case hdBadStatement => k_is)
    (case caBadStatement => k_is)
    (case cnBadStatement => k_is)
    (case ctBadStatement => k_is)
    (case cmBadStatement => k_is)
    (case peBadStatement => kernel_rfl)
    (case iBadStatement_BadStatement => kernel_rfl)
    (case iBadStatement_BadSheet => kernel_rfl)
    (case iBadStatement_BadWay => kernel_rfl)
    (case iBadStatement_BadCode => kernel_rfl)
    (case iBadStatement_BadValue => kernel_rfl)
    (case iBadStatement_BadNumber => kernel_rfl)
    (case iBadStatement_BadPaper => kernel_rfl)
    (case iBadStatement_BadLibrary => kernel_rfl)
    (case iBadStatement_Misfit => kernel_rfl)
    (case lPartI => k_is)
    (case cPartI => k_is)
    (case oPartI => k_is)
    (case vPartI => rfl)
    (case fPartI => rfl)
    (case qPartI => k_is)
    (case kPartI => kernel_rfl)
    (case uPartI => k_is)
    (case pPartI => rfl)
    (case yPartI => k_is)
    (case tPartI => k_is)
    (case gBARE => k_is)
    (case lBARE => k_is)
    (case tBARE => rfl)
    (case gJOINS => k_is)
    (case lJOINS => k_is)
    (case tJOINS => rfl)
    (case gLETTERS => k_is)
    (case gMOST_PARTS => k_is)
    (case gMOST_SIGNS => k_is)
    (case gWORDS => k_is)
    (case lWORDS => k_is)
    (case tWORDS => rfl)
    (case zabs => k_is)
    (case zall => k_is)
    (case zint => k_is)
    (case zisinstance => k_is)
    (case zlen => k_is)
    (case zlist => k_is)
    (case zrange => k_is)
    (case zrepr => k_is)
    (case zset => k_is)
    (case zsorted => k_is)
    (case zstr => k_is)
    (case ztuple => k_is)
